import PyProof.Rows.All
import Wide.All
import OpenK.AllK
import Wide.FinOn
import HandS.ForMost
import HandS.WordsExc
import HandS.Flow
import HandS.Wide
import HandS.IsInst
import HandS.TupAny
import HandS.Style
import HandS.Deep
import HandS.Walk
import HandS.Defaults
import HandS.TryOnly
import HandS.ExcOwn
import HandS.Dict
import HandS.ListEq
import HandS.DictEq
import KE.DataCmp
import KE.SortData
import HandS.TupMul
import HandS.DictTup
import HandS.FltList
import HandS.Zip
import KE.GoesEnum
import HandS.HeadHook4
import KE.KDictZip
import HandS.ListItems
import HandS.HeadWalk
import HandS.HeadEnd
import HandS.ExcInit
import HandS.Exc
import HandS.ExcField
import HandS.ExcIs
import KE.KExcIs
import HandS.HeadHook1
import HandS.HeadHook2
import HandS.FStr
import HandS.TupSets
import KE.KeyNested
import HandS.Text
import HandS.SetBool
import KE.KDictDisplayH
import HandS.DictComp
import HandS.CallSlots
import HandS.List
import HandS.Head0
import HandS.Head1
import HandS.Head2
import PySem.Challenge.RW_fewkept_k04_nets_made
set_option Elab.async false
set_option linter.all false
set_option maxRecDepth 100000
/-! FK 1: data in the abstract heap, owned bindings, zones, steps, results. -/
namespace FK
open PySem PySem.Spec PyProof.Rows L2

abbrev D := PyData
abbrev Fg := PySem.W.Frag

def keyD : Key → D
  | .inl i => .int i
  | .inr x => .str x
def keyT (k : List Key) : D := .tuple (k.map keyD)

mutual
/-- the value v stands for the datum d; H is the part of the heap that it leans on -/
inductive Rep (K : Fg) (H : Hp) : V → D → Prop
  | non : Rep K H .non .none
  | bl (b : Bool) : Rep K H (.bl b) (.bool b)
  | int (i : Int) : Rep K H (.int i) (.int i)
  | str (x : Str) : Rep K H (.str x) (.str x)
  | lst {a : Addr} {xs : List V} {ds : List D} : SqL K H a xs → RepL K H xs ds → Rep K H (.ref a) (.list ds)
  | tup {a : Addr} {xs : List V} {ds : List D} : SqT K H a xs → RepL K H xs ds → (xs ≠ [] → H a = some (.tup xs)) → Rep K H (.ref a) (.tuple ds)
  | dK {a : Addr} {kvs : List (Key × V)} {ps : List (D × D)} : Rd H a (.dK kvs) → RepP K H (kvs.map fun p => (keyD p.1, p.2)) ps → Rep K H (.ref a) (.dict ps)
  | dT {a : Addr} {kvs : List (List Key × V)} {ps : List (D × D)} : Rd H a (.dT kvs) → RepP K H (kvs.map fun p => (keyT p.1, p.2)) ps → Rep K H (.ref a) (.dict ps)
inductive RepL (K : Fg) (H : Hp) : List V → List D → Prop
  | nil : RepL K H [] []
  | cons {v : V} {vs : List V} {d : D} {ds : List D} : Rep K H v d → RepL K H vs ds → RepL K H (v :: vs) (d :: ds)
inductive RepP (K : Fg) (H : Hp) : List (D × V) → List (D × D) → Prop
  | nil : RepP K H [] []
  | cons {k : D} {v : V} {vs : List (D × V)} {d : D} {ds : List (D × D)} : Rep K H v d → RepP K H vs ds → RepP K H ((k, v) :: vs) ((k, d) :: ds)
end

theorem rd_same {H H' : Hp} {a : Addr} {u : HO} (e : Same H H') (h : Rd H a u) : Rd H' a u := by
  rcases h with h | ⟨o, h⟩
  · exact .inl (e _ _ h)
  · exact .inr ⟨o, e _ _ h⟩
theorem sqL_same {K : Fg} {H H' : Hp} {a : Addr} {xs : List V} (e : Same H H') (h : SqL K H a xs) : SqL K H' a xs := by
  rcases h with h | h
  · exact .inl (rd_same e h)
  · exact .inr h
theorem seqT_same {K : Fg} {H H' : Hp} {a : Addr} {xs : List V} (e : Same H H') (h : SqT K H a xs) : SqT K H' a xs := by
  rcases h with h | h
  · exact .inl (rd_same e h)
  · exact .inr h
mutual
theorem Rep.mono {K : Fg} {H H' : Hp} (e : Same H H') : ∀ {v : V} {d : D}, Rep K H v d → Rep K H' v d
  | _, _, .non => .non
  | _, _, .bl b => .bl b
  | _, _, .int i => .int i
  | _, _, .str x => .str x
  | _, _, .lst h r => .lst (sqL_same e h) (RepL.mono e r)
  | _, _, .tup h r x => .tup (seqT_same e h) (RepL.mono e r) (fun n => e _ _ (x n))
  | _, _, .dK h r => .dK (rd_same e h) (RepP.mono e r)
  | _, _, .dT h r => .dT (rd_same e h) (RepP.mono e r)
theorem RepL.mono {K : Fg} {H H' : Hp} (e : Same H H') : ∀ {vs : List V} {ds : List D}, RepL K H vs ds → RepL K H' vs ds
  | _, _, .nil => .nil
  | _, _, .cons r t => .cons (Rep.mono e r) (RepL.mono e t)
theorem RepP.mono {K : Fg} {H H' : Hp} (e : Same H H') : ∀ {vs : List (D × V)} {ds : List (D × D)}, RepP K H vs ds → RepP K H' vs ds
  | _, _, .nil => .nil
  | _, _, .cons r t => .cons (Rep.mono e r) (RepP.mono e t)
end

section
variable {K : Fg} {H : Hp}
theorem RepL.length : ∀ {vs : List V} {ds : List D}, RepL K H vs ds → vs.length = ds.length
  | _, _, .nil => rfl
  | _, _, .cons _ t => congrArg (· + 1) t.length
theorem RepL.get : ∀ {vs : List V} {ds : List D} {i : Nat} {v : V}, RepL K H vs ds → vs[i]? = some v → ∃ d, ds[i]? = some d ∧ Rep K H v d
  | _, _, _, _, .nil, e => by simp at e
  | _, _, 0, _, .cons r _, e => by simp at e; subst e; exact ⟨_, rfl, r⟩
  | _, _, i + 1, v, .cons _ t, e => by
    obtain ⟨u, h1, h2⟩ := RepL.get (i := i) (v := v) t (by simpa using e)
    exact ⟨u, by simpa using h1, h2⟩
theorem RepL.get' : ∀ {vs : List V} {ds : List D} {i : Nat} {d : D}, RepL K H vs ds → ds[i]? = some d → ∃ v, vs[i]? = some v ∧ Rep K H v d
  | _, _, _, _, .nil, e => by simp at e
  | _, _, 0, _, .cons r _, e => by simp at e; subst e; exact ⟨_, rfl, r⟩
  | _, _, i + 1, d, .cons _ t, e => by
    obtain ⟨u, h1, h2⟩ := RepL.get' (i := i) (d := d) t (by simpa using e)
    exact ⟨u, by simpa using h1, h2⟩
theorem RepL.append : ∀ {vs ws : List V} {ds es : List D}, RepL K H vs ds → RepL K H ws es → RepL K H (vs ++ ws) (ds ++ es)
  | _, _, _, _, .nil, s => s
  | _, _, _, _, .cons r t, s => .cons r (RepL.append t s)
theorem RepL.take : ∀ {vs : List V} {ds : List D} (n : Nat), RepL K H vs ds → RepL K H (vs.take n) (ds.take n)
  | _, _, 0, _ => .nil
  | _, _, _ + 1, .nil => .nil
  | _, _, n + 1, .cons r t => .cons r (RepL.take n t)
theorem RepL.drop : ∀ {vs : List V} {ds : List D} (n : Nat), RepL K H vs ds → RepL K H (vs.drop n) (ds.drop n)
  | _, _, 0, r => r
  | _, _, _ + 1, .nil => .nil
  | _, _, n + 1, .cons _ t => RepL.drop n t
theorem RepL.set {v : V} {d : D} (r : Rep K H v d) : ∀ {vs : List V} {ds : List D} (i : Nat), RepL K H vs ds → RepL K H (vs.set i v) (ds.set i d)
  | _, _, _, .nil => .nil
  | _, _, 0, .cons _ t => .cons r t
  | _, _, i + 1, .cons q t => .cons q (RepL.set r i t)
theorem RepL.reverse {vs : List V} {ds : List D} (h : RepL K H vs ds) : RepL K H vs.reverse ds.reverse := by
  induction vs generalizing ds with
  | nil => cases h; exact .nil
  | cons v vs ih =>
    cases h with
    | cons r t =>
      rw [List.reverse_cons, List.reverse_cons]
      exact (ih t).append (.cons r .nil)
theorem RepL.ints : ∀ (ns : List Int), RepL K H (ns.map V.int) (ns.map PyData.int)
  | [] => .nil
  | n :: ns => .cons (.int n) (RepL.ints ns)
theorem RepL.bls : ∀ (ns : List Bool), RepL K H (ns.map V.bl) (ns.map PyData.bool)
  | [] => .nil
  | n :: ns => .cons (.bl n) (RepL.bls ns)
theorem RepL.strs : ∀ (ns : List Str), RepL K H (ns.map V.str) (ns.map PyData.str)
  | [] => .nil
  | n :: ns => .cons (.str n) (RepL.strs ns)
theorem RepL.of_ints : ∀ {vs : List V} {ns : List Int}, RepL K H vs (ns.map PyData.int) → vs = ns.map V.int
  | _, [], .nil => rfl
  | _, n :: ns, .cons (.int _) t => by rw [RepL.of_ints t]; rfl
theorem RepL.of_bls : ∀ {vs : List V} {ns : List Bool}, RepL K H vs (ns.map PyData.bool) → vs = ns.map V.bl
  | _, [], .nil => rfl
  | _, n :: ns, .cons (.bl _) t => by rw [RepL.of_bls t]; rfl
theorem RepL.of_strs : ∀ {vs : List V} {ns : List Str}, RepL K H vs (ns.map PyData.str) → vs = ns.map V.str
  | _, [], .nil => rfl
  | _, n :: ns, .cons (.str _) t => by rw [RepL.of_strs t]; rfl
end

/-! ### bindings -/
/-- what a name holds: nothing that is told; a frozen datum; an owned list or dict; an owned object of a class -/
inductive B where
  | no
  | fr (d : D)
  | ow (d : D)
  | ob (c : Nat) (fs : List B)
instance : Inhabited B := ⟨.no⟩
abbrev Env := List B

/-- the owned object at a -/
def OwRep (K : Fg) (Hz H : Hp) (a : Addr) : D → Prop
  | .list ds => ∃ vs, H a = some (.lst vs) ∧ RepL K Hz vs ds
  | .dict ps => (∃ kvs, H a = some (.dK kvs) ∧ RepP K Hz (kvs.map fun p => (keyD p.1, p.2)) ps) ∨ ∃ kvs, H a = some (.dT kvs) ∧ RepP K Hz (kvs.map fun p => (keyT p.1, p.2)) ps
  | _ => False
/-- v is as b tells; fp: the addresses that it owns -/
def MRep (K : Fg) (Hz H : Hp) (fp : List Addr) (v : V) : B → Prop
  | .no => fp = []
  | .fr d => fp = [] ∧ Rep K Hz v d
  | .ow d => ∃ a, v = .ref a ∧ fp = [a] ∧ OwRep K Hz H a d
  | .ob a fs => v = .ref a ∧ fp = [] ∧ ∀ dx d f, fs = [.ob dx [], .fr d, .fr (.str f)] → ∃ w, Hz dx = some (.xd [(f, w)]) ∧ Rep K Hz w d
def Own (F : Nat → List Addr) (a : Addr) : Prop := ∃ i, a ∈ F i

structure Zone (K : Fg) (Hz H : Hp) (σ : L2.St) (ρ : Env) (F : Nat → List Addr) : Prop where
  sub : Same Hz H
  len : ρ.length = σ.length
  slot : ∀ i b, ρ[i]? = some b → b ≠ .no → ∃ v, σ[i]? = some (some v) ∧ MRep K Hz H (F i) v b
  out : ∀ i a, a ∈ F i → Hz a = none
  apart : ∀ i j a, a ∈ F i → a ∈ F j → i = j
  dead : ∀ i, (ρ[i]? = none ∨ ρ[i]? = some .no) → F i = []

structure Step (Hz H : Hp) (F : Nat → List Addr) (Hz' H' : Hp) (F' : Nat → List Addr) : Prop where
  z : Same Hz Hz'
  fr : ∀ a o, H a = some o → ¬ Own F a → H' a = some o
  nz : ∀ a, Hz' a ≠ none → Hz a ≠ none ∨ H a = none ∨ Own F a
  no : ∀ a, Own F' a → H a = none ∨ Own F a
  dom : ∀ a, H a ≠ none → H' a ≠ none

theorem ne_none_of_some {α : Type} {x : Option α} {y : α} (h : x = some y) : x ≠ none := by rw [h]; exact fun z => nomatch z
theorem ex_of_ne {α : Type} {x : Option α} (h : x ≠ none) : ∃ y, x = some y := by
  cases x with
  | none => exact absurd rfl h
  | some y => exact ⟨y, rfl⟩

section
variable {K : Fg} {Hz H Hz1 H1 Hz2 H2 : Hp} {F F1 F2 : Nat → List Addr} {σ : L2.St} {ρ : Env}
theorem Step.refl : Step Hz H F Hz H F := ⟨Same.refl _, fun _ _ h _ => h, fun _ h => .inl h, fun _ h => .inr h, fun _ h => h⟩
theorem Step.trans (a : Step Hz H F Hz1 H1 F1) (b : Step Hz1 H1 F1 Hz2 H2 F2) : Step Hz H F Hz2 H2 F2 where
  z := a.z.trans b.z
  fr := fun c o h n => b.fr c o (a.fr c o h n) fun q => by
    rcases a.no c q with z | z
    · rw [h] at z; cases z
    · exact n z
  nz := fun c h => by
    rcases b.nz c h with q | q | q
    · exact a.nz c q
    · refine .inr (.inl ?_)
      cases e : H c with
      | none => rfl
      | some o => exact absurd q (a.dom c (by rw [e]; exact fun z => nomatch z))
    · rcases a.no c q with z | z
      · exact .inr (.inl z)
      · exact .inr (.inr z)
  no := fun c h => by
    rcases b.no c h with q | q
    · refine .inl ?_
      cases e : H c with
      | none => rfl
      | some o => exact absurd q (a.dom c (by rw [e]; exact fun z => nomatch z))
    · exact a.no c q
  dom := fun c h => b.dom c (a.dom c h)

/-- an owned address stands -/
theorem MRep.there {fp : List Addr} {v : V} {b : B} (m : MRep K Hz H fp v b) {a : Addr} (h : a ∈ fp) : H a ≠ none := by
  cases b with
  | no => rw [show fp = [] from m] at h; cases h
  | fr d => rw [m.1] at h; cases h
  | ow d =>
    obtain ⟨c, _, e, o⟩ := m
    rw [e] at h
    have : a = c := by simpa using h
    subst this
    cases d with
    | list ds => obtain ⟨vs, e, _⟩ := o; rw [e]; exact fun z => nomatch z
    | dict ps =>
      rcases o with ⟨_, e, _⟩ | ⟨_, e, _⟩
      · rw [e]; exact fun z => nomatch z
      · rw [e]; exact fun z => nomatch z
    | _ => cases o
  | ob c fs => rw [m.2.1] at h; cases h
theorem Zone.at (z : Zone K Hz H σ ρ F) {i : Nat} (h : F i ≠ []) : ∃ b v, ρ[i]? = some b ∧ b ≠ .no ∧ σ[i]? = some (some v) ∧ MRep K Hz H (F i) v b := by
  cases e : ρ[i]? with
  | none => exact absurd (z.dead i (.inl e)) h
  | some b =>
    by_cases hb : b = .no
    · subst hb; exact absurd (z.dead i (.inr e)) h
    · obtain ⟨v, h1, h2⟩ := z.slot i b e hb
      exact ⟨b, v, rfl, hb, h1, h2⟩
theorem Zone.there (z : Zone K Hz H σ ρ F) {a : Addr} (h : Own F a) : H a ≠ none := by
  obtain ⟨i, hi⟩ := h
  obtain ⟨b, v, _, _, _, m⟩ := z.at (i := i) (fun e => by rw [e] at hi; cases hi)
  exact m.there hi
theorem Zone.notIn (z : Zone K Hz H σ ρ F) {a : Addr} (h : Own F a) : Hz a = none := by
  obtain ⟨i, hi⟩ := h
  exact z.out i a hi
theorem OwRep.keep {a : Addr} {d : D} (s : Same Hz Hz1) (e : H1 a = H a) (o : OwRep K Hz H a d) : OwRep K Hz1 H1 a d := by
  cases d with
  | list ds => obtain ⟨vs, h, r⟩ := o; exact ⟨vs, e.trans h, r.mono s⟩
  | dict ps =>
    rcases o with ⟨k, h, r⟩ | ⟨k, h, r⟩
    · exact .inl ⟨k, e.trans h, r.mono s⟩
    · exact .inr ⟨k, e.trans h, r.mono s⟩
  | _ => cases o
theorem MRep.keep {fp : List Addr} {v : V} {b : B} (s : Same Hz Hz1) (e : ∀ a ∈ fp, H1 a = H a) (m : MRep K Hz H fp v b) : MRep K Hz1 H1 fp v b := by
  cases b with
  | no => exact m
  | fr d => exact ⟨m.1, m.2.mono s⟩
  | ow d =>
    obtain ⟨c, h1, h2, o⟩ := m
    exact ⟨c, h1, h2, o.keep s (e c (by rw [h2]; simp))⟩
  | ob c fs =>
    obtain ⟨h1, h2, h3⟩ := m
    refine ⟨h1, h2, fun dx d f q => ?_⟩
    obtain ⟨w, h4, h5⟩ := h3 dx d f q
    exact ⟨w, s _ _ h4, h5.mono s⟩
/-- the zone behind what kept the owned ones -/
theorem Zone.keep (z : Zone K Hz H σ ρ F) (s : Same Hz Hz1) (s1 : Same Hz1 H1) (e : ∀ a, Own F a → H1 a = H a) (n : ∀ a, Own F a → Hz1 a = none) : Zone K Hz1 H1 σ ρ F where
  sub := s1
  len := z.len
  slot := fun i b h hb => by
    obtain ⟨v, h1, m⟩ := z.slot i b h hb
    exact ⟨v, h1, m.keep s fun a ha => e a ⟨i, ha⟩⟩
  out := fun i a h => n a ⟨i, h⟩
  apart := z.apart
  dead := z.dead
/-- a new object, frozen -/
theorem same_push {p : Addr} {o : HO} (h : H p = none) : Same H (upd H p o) := fun b x e => by
  rw [upd_ne (ne_of_none e h)]; exact e
theorem Same.push {p : Addr} {o : HO} (s : Same Hz H) (h : H p = none) : Same (upd Hz p o) (upd H p o) := fun b x e => by
  by_cases hb : b = p
  · subst hb; rw [upd_same] at e ⊢; exact e
  · rw [upd_ne hb] at e ⊢; exact s b x e
theorem Zone.push {p : Addr} {o : HO} (z : Zone K Hz H σ ρ F) (h : H p = none) : Zone K (upd Hz p o) (upd H p o) σ ρ F :=
  z.keep (same_push (z.sub.free h)) (Same.push z.sub h) (fun a ha => upd_ne fun q => by subst q; exact z.there ha h) fun a ha => by
    rw [upd_ne fun q => by subst q; exact z.there ha h]; exact z.notIn ha
theorem Step.push {p : Addr} {o : HO} (s : Same Hz H) (h : H p = none) : Step Hz H F (upd Hz p o) (upd H p o) F where
  z := same_push (s.free h)
  fr := fun a x e _ => same_push h a x e
  nz := fun a e => by
    by_cases hb : a = p
    · subst hb; exact .inr (.inl h)
    · rw [upd_ne hb] at e; exact .inl e
  no := fun a h => .inr h
  dom := fun a e => by
    by_cases hb : a = p
    · subst hb; rw [upd_same]; exact fun z => nomatch z
    · rw [upd_ne hb]; exact e
/-- a new object, not yet frozen -/
theorem Zone.push0 {p : Addr} {o : HO} (z : Zone K Hz H σ ρ F) (h : H p = none) : Zone K Hz (upd H p o) σ ρ F :=
  z.keep (Same.refl _) (z.sub.trans (same_push h)) (fun a ha => upd_ne fun q => by subst q; exact z.there ha h) fun a ha => z.notIn ha
theorem Step.push0 {p : Addr} {o : HO} (h : H p = none) : Step Hz H F Hz (upd H p o) F where
  z := Same.refl _
  fr := fun a x e _ => same_push h a x e
  nz := fun a e => .inl e
  no := fun a h => .inr h
  dom := fun a e => by
    by_cases hb : a = p
    · subst hb; rw [upd_same]; exact fun z => nomatch z
    · rw [upd_ne hb]; exact e
/-- an owned temp (at p, no slot's) becomes frozen -/
def frz1 (Hz H : Hp) (p : Addr) : Hp := fun b => if b = p then H b else Hz b
theorem frz1_same {p : Addr} : frz1 Hz H p p = H p := if_pos rfl
theorem frz1_ne {p b : Addr} (h : b ≠ p) : frz1 Hz H p b = Hz b := if_neg h
theorem frz1_ge {p : Addr} (h : Hz p = none) : Same Hz (frz1 Hz H p) := fun b x e => by rw [frz1_ne (ne_of_none e h)]; exact e
theorem frz1_le {p : Addr} (s : Same Hz H) : Same (frz1 Hz H p) H := fun b x e => by
  by_cases hb : b = p
  · subst hb; rw [frz1_same] at e; exact e
  · rw [frz1_ne hb] at e; exact s b x e
theorem Zone.freeze {p : Addr} (z : Zone K Hz H σ ρ F) (h : Hz p = none) (n : ¬ Own F p) : Zone K (frz1 Hz H p) H σ ρ F :=
  z.keep (frz1_ge h) (frz1_le z.sub) (fun _ _ => rfl) fun a ha => by rw [frz1_ne fun q => by subst q; exact n ha]; exact z.notIn ha
theorem OwRep.rep {a : Addr} {d : D} (h : Hz a = none) (o : OwRep K Hz H a d) : Rep K (frz1 Hz H a) (.ref a) d := by
  have e : frz1 Hz H a a = H a := frz1_same
  cases d with
  | list ds => obtain ⟨vs, q, r⟩ := o; exact .lst (.inl (.inl (e.trans q))) (r.mono (frz1_ge h))
  | dict ps =>
    rcases o with ⟨k, q, r⟩ | ⟨k, q, r⟩
    · exact .dK (.inl (e.trans q)) (r.mono (frz1_ge h))
    · exact .dT (.inl (e.trans q)) (r.mono (frz1_ge h))
  | _ => cases o
end

/-! ### results -/
/-- an exception: its class (a number), its field -/
structure Xn where
  cls : Nat
  fld : Option D
/-- a result: nothing told; a thing, and the names behind it; an exception -/
inductive Rs (α : Type) where
  | bad
  | ok (a : α) (ρ : Env)
  | exc (x : Xn) (ρ : Env)
abbrev RE := Rs B
abbrev RA := Rs (List D)
abbrev RT := Rs Bool
inductive RS where
  | bad
  | nx (ρ : Env)
  | rt (b : B) (ρ : Env)
  | bk (ρ : Env)
  | ct (ρ : Env)
  | exc (x : Xn) (ρ : Env)
abbrev SE := Env → RE
abbrev SA := Env → RA
abbrev STs := Env → RT
abbrev SS := Env → RS
def frz : B → Option D
  | .fr d => some d
  | .ow d => some d
  | _ => none
def Rs.bnd {α β : Type} (r : Rs α) (k : α → Env → Rs β) : Rs β := match r with
  | .ok a ρ => k a ρ
  | .bad => .bad
  | .exc x ρ => .exc x ρ
/-- the value, frozen -/
def Rs.frd {β : Type} (r : RE) (k : D → Env → Rs β) : Rs β := r.bnd fun b ρ => match frz b with
  | some d => k d ρ
  | none => .bad
def Rs.bS {α : Type} (r : Rs α) (k : α → Env → RS) : RS := match r with
  | .ok a ρ => k a ρ
  | .bad => .bad
  | .exc x ρ => .exc x ρ
def lft {α : Type} (o : Option α) (ρ : Env) : Rs α := match o with
  | some a => .ok a ρ
  | none => .bad
end FK

set_option Elab.async false
set_option linter.all false
set_option maxRecDepth 100000
/-! FK 2: readings of closures; operators. -/
namespace FK
open PySem PySem.Spec PyProof.Rows L2

/-- what is fixed in a law: the written part, how an exception of the program lies -/
structure Tx where
  K : Fg
  xr : Xn → Hp → Value → Option Addr → Hp → Prop

/-- behind an evaluation: P tells how the thing is borne by what came -/
def Aft {α β : Type} (T : Tx) (W : WX) (Hz H : Hp) (F : Nat → List Addr) (σ : L2.St) (P : α → β → Hp → Hp → Hp → (Nat → List Addr) → Prop) (r : Rs α) (Q : β → Hp → Prop) : Prop := match r with
  | .bad => False
  | .ok a ρ' => ∀ (y : β) (Hz' H' : Hp) (F' : Nat → List Addr), Zone T.K Hz' H' σ ρ' F' → Step Hz H F Hz' H' F' → P a y H Hz' H' F' → Q y H'
  | .exc x ρ' => ∀ (cls : Value) (d : Option Addr) (Hz' H' : Hp) (F' : Nat → List Addr), Zone T.K Hz' H' σ ρ' F' → Step Hz H F Hz' H' F' → T.xr x Hz' cls d H' → W cls d σ H'
/-- a value that b tells; what it owns is its own and new or was owned -/
def PB (K : Fg) (F : Nat → List Addr) : B → V → Hp → Hp → Hp → (Nat → List Addr) → Prop := fun b v H Hz' H' F' => ∃ fp, MRep K Hz' H' fp v b ∧ ∀ a ∈ fp, Hz' a = none ∧ ¬ Own F' a ∧ (H a = none ∨ Own F a)
def PL (K : Fg) : List D → List V → Hp → Hp → Hp → (Nat → List Addr) → Prop := fun ds vs _ Hz' _ _ => RepL K Hz' vs ds
def PT_ : Bool → Bool → Hp → Hp → Hp → (Nat → List Addr) → Prop := fun c b _ _ _ _ => c = b

def tE (T : Tx) (W : WX) (f : SE) : TE := fun σ H Q => ∃ Hz ρ F, Zone T.K Hz H σ ρ F ∧ Aft T W Hz H F σ (PB T.K F) (f ρ) Q
def tA (T : Tx) (W : WX) (f : SA) : TA := fun σ H Q => ∃ Hz ρ F, Zone T.K Hz H σ ρ F ∧ Aft T W Hz H F σ (PL T.K) (f ρ) Q
def tT (T : Tx) (W : WX) (f : STs) : TT := fun σ H Q => ∃ Hz ρ F, Zone T.K Hz H σ ρ F ∧ Aft T W Hz H F σ PT_ (f ρ) Q

section
variable {T : Tx} {W : WX} {Hz H Hz1 H1 : Hp} {F F1 : Nat → List Addr} {σ : L2.St} {ρ : Env} {α β : Type}
theorem Aft.imp {P : α → β → Hp → Hp → Hp → (Nat → List Addr) → Prop} {r : Rs α} {Q Q' : β → Hp → Prop} (h : Aft T W Hz H F σ P r Q) (hq : ∀ y H', Q y H' → Q' y H') : Aft T W Hz H F σ P r Q' := by
  cases r with
  | bad => exact h
  | ok a ρ' => exact fun y Hz' H' F' z st p => hq _ _ (h y Hz' H' F' z st p)
  | exc x ρ' => exact h
/-- from a later start -/
theorem Aft.from {P : α → β → Hp → Hp → Hp → (Nat → List Addr) → Prop} {P' : α → β → Hp → Hp → Hp → (Nat → List Addr) → Prop} {r : Rs α} {Q : β → Hp → Prop} (h : Aft T W Hz H F σ P r Q) (s : Step Hz H F Hz1 H1 F1)
    (hp : ∀ a y Hz' H' F', P' a y H1 Hz' H' F' → P a y H Hz' H' F') : Aft T W Hz1 H1 F1 σ P' r Q := by
  cases r with
  | bad => exact h
  | ok a ρ' => exact fun y Hz' H' F' z st p => h y Hz' H' F' z (s.trans st) (hp _ _ _ _ _ p)
  | exc x ρ' => exact fun cls d Hz' H' F' z st q => h cls d Hz' H' F' z (s.trans st) q
theorem PB.from (s : Step Hz H F Hz1 H1 F1) (b : B) (v : V) (Hz' H' : Hp) (F' : Nat → List Addr) (h : PB T.K F1 b v H1 Hz' H' F') : PB T.K F b v H Hz' H' F' := by
  obtain ⟨fp, m, q⟩ := h
  refine ⟨fp, m, fun a ha => ⟨(q a ha).1, (q a ha).2.1, ?_⟩⟩
  rcases (q a ha).2.2 with z | z
  · refine .inl ?_
    cases e : H a with
    | none => rfl
    | some o => exact absurd z (s.dom a (by rw [e]; exact fun z => nomatch z))
  · exact s.no a z
theorem Aft.fromB {r : RE} {Q : VK} (h : Aft T W Hz H F σ (PB T.K F) r Q) (s : Step Hz H F Hz1 H1 F1) : Aft T W Hz1 H1 F1 σ (PB T.K F1) r Q := h.from s fun a y Hz' H' F' p => PB.from s a y Hz' H' F' p
theorem Aft.fromL {r : RA} {Q : List V → Hp → Prop} (h : Aft T W Hz H F σ (PL T.K) r Q) (s : Step Hz H F Hz1 H1 F1) : Aft T W Hz1 H1 F1 σ (PL T.K) r Q := h.from s fun _ _ _ _ _ p => p
theorem Aft.fromT {r : RT} {Q : Bool → Hp → Prop} (h : Aft T W Hz H F σ PT_ r Q) (s : Step Hz H F Hz1 H1 F1) : Aft T W Hz1 H1 F1 σ PT_ r Q := h.from s fun _ _ _ _ _ p => p

/-- a value, its frozen datum -/
theorem freeze {b : B} {d : D} {v : V} (hd : frz b = some d) (z : Zone T.K Hz1 H1 σ ρ F1) (s : Step Hz H F Hz1 H1 F1) (p : PB T.K F b v H Hz1 H1 F1) : ∃ Hz2, Zone T.K Hz2 H1 σ ρ F1 ∧ Step Hz H F Hz2 H1 F1 ∧ Rep T.K Hz2 v d := by
  obtain ⟨fp, m, q⟩ := p
  cases b with
  | no => cases hd
  | fr e => cases hd; exact ⟨Hz1, z, s, m.2⟩
  | ow e =>
    cases hd
    obtain ⟨a, rfl, rfl, o⟩ := m
    obtain ⟨q1, q2, q3⟩ := q a (by simp)
    refine ⟨frz1 Hz1 H1 a, z.freeze q1 q2, ⟨s.z.trans (frz1_ge q1), s.fr, fun b h => ?_, s.no, s.dom⟩, o.rep q1⟩
    by_cases hb : b = a
    · subst hb; exact .inr q3
    · rw [frz1_ne hb] at h; exact s.nz b h
  | ob c fs => cases hd
theorem Aft.bnd {P : α → β → Hp → Hp → Hp → (Nat → List Addr) → Prop} {γ δ : Type} {P' : γ → δ → Hp → Hp → Hp → (Nat → List Addr) → Prop} {r : Rs α} {k : α → Env → Rs γ} {Q : δ → Hp → Prop} (h : Aft T W Hz H F σ P' (r.bnd k) Q) :
    Aft T W Hz H F σ P r fun y H1 => ∃ Hz1 F1 a ρ1, Zone T.K Hz1 H1 σ ρ1 F1 ∧ Step Hz H F Hz1 H1 F1 ∧ P a y H Hz1 H1 F1 ∧ Aft T W Hz H F σ P' (k a ρ1) Q := by
  cases r with
  | bad => exact h
  | ok a ρ' => exact fun y Hz' H' F' z st p => ⟨Hz', F', a, ρ', z, st, p, h⟩
  | exc x ρ' => exact h
theorem Aft.frd {γ δ : Type} {P' : γ → δ → Hp → Hp → Hp → (Nat → List Addr) → Prop} {r : RE} {k : D → Env → Rs γ} {Q : δ → Hp → Prop} (h : Aft T W Hz H F σ P' (r.frd k) Q) :
    Aft T W Hz H F σ (PB T.K F) r fun v H1 => ∃ Hz1 F1 d ρ1, Zone T.K Hz1 H1 σ ρ1 F1 ∧ Step Hz H F Hz1 H1 F1 ∧ Rep T.K Hz1 v d ∧ Aft T W Hz H F σ P' (k d ρ1) Q := by
  refine Aft.imp (Aft.bnd (P := PB T.K F) h) fun v H1 ⟨Hz1, F1, b, ρ1, z, st, p, q⟩ => ?_
  cases e : frz b with
  | none => rw [e] at q; cases q
  | some d =>
    rw [e] at q
    obtain ⟨Hz2, z2, s2, r2⟩ := freeze e z st p
    exact ⟨Hz2, F1, d, ρ1, z2, s2, r2, q⟩
/-- ends -/
theorem Aft.fin {d : D} {v : V} {Q : VK} (h : Aft T W Hz H F σ (PB T.K F) (.ok (.fr d) ρ) Q) (z : Zone T.K Hz H σ ρ F) (r : Rep T.K Hz v d) : Q v H := h v Hz H F z .refl ⟨[], ⟨rfl, r⟩, fun a ha => nomatch ha⟩
end

/-- a value made: the heap grew; Hz' is what stands frozen then -/
def New (K : Fg) (Hz H : Hp) (b : B) (v : V) (H' : Hp) : Prop := ∃ Hz' fp, Same Hz Hz' ∧ Same H H' ∧ Same Hz' H' ∧ (∀ a, Hz' a ≠ none → Hz a ≠ none ∨ H a = none) ∧ MRep K Hz' H' fp v b ∧ ∀ a ∈ fp, Hz' a = none ∧ H a = none
section
variable {K : Fg} {Hz H H' : Hp} {v : V} {d : D} {ds : List D} {vs : List V} {p : Addr}
theorem New.here (s : Same Hz H) (r : Rep K Hz v d) : New K Hz H (.fr d) v H := ⟨Hz, [], .refl _, .refl _, s, fun _ h => .inl h, ⟨rfl, r⟩, fun a ha => nomatch ha⟩
theorem New.tup (s : Same Hz H) (h : H p = none) (r : RepL K Hz vs ds) : New K Hz H (.fr (.tuple ds)) (.ref p) (upd H p (.tup vs)) :=
  ⟨upd Hz p (.tup vs), [], same_push (s.free h), same_push h, Same.push s h, fun a e => by
    by_cases hb : a = p
    · subst hb; exact .inr h
    · rw [upd_ne hb] at e; exact .inl e, ⟨rfl, .tup (SqT.of upd_same) (r.mono (same_push (s.free h))) fun _ => upd_same⟩, fun a ha => nomatch ha⟩
theorem New.lst (s : Same Hz H) (h : H p = none) (r : RepL K Hz vs ds) : New K Hz H (.ow (.list ds)) (.ref p) (upd H p (.lst vs)) :=
  ⟨Hz, [p], .refl _, same_push h, s.trans (same_push h), fun a e => .inl e, ⟨p, rfl, rfl, vs, upd_same, r⟩, fun a ha => by
    have e : a = p := by simpa using ha
    subst e; exact ⟨s.free h, h⟩⟩
end
section
variable {T : Tx} {W : WX} {Hz H Hz1 H1 : Hp} {F : Nat → List Addr} {σ : L2.St} {ρ : Env}
/-- a value made, behind an evaluation -/
theorem Aft.made {b : B} {v : V} {H' : Hp} {Q : VK} (h : Aft T W Hz H F σ (PB T.K F) (.ok b ρ) Q) (z : Zone T.K Hz H σ ρ F) (n : New T.K Hz H b v H') : Q v H' := by
  obtain ⟨Hz', fp, s1, s2, s3, nz, m, q⟩ := n
  have no : ∀ a, Own F a → Hz' a = none := fun a ha => by
    cases e : Hz' a with
    | none => rfl
    | some o =>
      rcases nz a (by rw [e]; exact fun z => nomatch z) with w | w
      · exact absurd (z.notIn ha) w
      · exact absurd w (z.there ha)
  refine h v Hz' H' F (z.keep s1 s3 (fun a ha => ?_) no) ⟨s1, fun a o e _ => s2 a o e, fun a e => (nz a e).elim .inl fun w => .inr (.inl w), fun a ha => .inr ha, fun a e => ?_⟩ ⟨fp, m, fun a ha => ⟨(q a ha).1, fun w => z.there w (q a ha).2, .inl (q a ha).2⟩⟩
  · obtain ⟨o, e⟩ := ex_of_ne (z.there ha)
    rw [e]; exact s2 a o e
  · obtain ⟨o, e⟩ := ex_of_ne e
    rw [s2 a o e]; exact fun z => nomatch z
end

/-! ### operators by data -/
def rOf (K : Fg) (g : D → D → Option B) : R2 := fun x y H Q => ∃ Hz d e b, Same Hz H ∧ Rep K Hz x d ∧ Rep K Hz y e ∧ g d e = some b ∧ ∀ v H', New K Hz H b v H' → Q v H'
def rOf1 (K : Fg) (g : D → Option B) : V → Hp → VK → Prop := fun x H Q => ∃ Hz d b, Same Hz H ∧ Rep K Hz x d ∧ g d = some b ∧ ∀ v H', New K Hz H b v H' → Q v H'
def rOfN (K : Fg) (g : List D → Option B) : List V → Hp → VK → Prop := fun xs H Q => ∃ Hz ds b, Same Hz H ∧ RepL K Hz xs ds ∧ g ds = some b ∧ ∀ v H', New K Hz H b v H' → Q v H'

/-! ### closures of expressions -/
def sVar (i : Nat) : SE := fun ρ => match ρ[i]? with
  | some (.fr d) => .ok (.fr d) ρ
  | _ => .bad
def sC (d : D) : SE := fun ρ => .ok (.fr d) ρ
def sBin (g : D → D → Option B) (fa fb : SE) : SE := fun ρ => (fa ρ).frd fun x ρ1 => (fb ρ1).frd fun y ρ2 => lft (g x y) ρ2
def sUn (g : D → Option B) (fa : SE) : SE := fun ρ => (fa ρ).frd fun x ρ1 => lft (g x) ρ1
def sNil : SA := fun ρ => .ok [] ρ
def sCons (fa : SE) (fr : SA) : SA := fun ρ => (fa ρ).frd fun x ρ1 => (fr ρ1).bnd fun xs ρ2 => .ok (x :: xs) ρ2
def sApp (g : List D → Option B) (fa : SA) : SE := fun ρ => (fa ρ).bnd fun xs ρ1 => lft (g xs) ρ1
def small (n : Nat) : Bool := decide (n ≤ sizeLine)
def gTuple (ds : List D) : Option B := if ds.length ≤ sizeLine then some (.fr (.tuple ds)) else none
def gList (ds : List D) : Option B := if ds.length ≤ sizeLine then some (.ow (.list ds)) else none
def truth : D → Bool
  | .none => false
  | .bool b => b
  | .int i => i != 0
  | .str x => x.length != 0
  | .list ds => !ds.isEmpty
  | .tuple ds => !ds.isEmpty
  | .dict ps => !ps.isEmpty
def okTruth : D → Bool
  | .str x => decide (x.length ≤ sizeLine)
  | .dict _ => false
  | _ => true
def sTru (fa : SE) : STs := fun ρ => (fa ρ).frd fun x ρ1 => if okTruth x then .ok (truth x) ρ1 else .bad
def bOf : D → Option Bool
  | .bool b => some b
  | _ => none
def sTest (fa : SE) : STs := fun ρ => (fa ρ).frd fun x ρ1 => lft (bOf x) ρ1
def sNotV (fa : SE) : SE := fun ρ => (fa ρ).frd fun x ρ1 => if okTruth x then .ok (.fr (.bool (!truth x))) ρ1 else .bad
def sNotT (c : STs) : STs := fun ρ => (c ρ).bnd fun b ρ1 => .ok (!b) ρ1
def sAndT (c e : STs) : STs := fun ρ => (c ρ).bnd fun b ρ1 => if b = true then e ρ1 else .ok false ρ1
def sOrT (c e : STs) : STs := fun ρ => (c ρ).bnd fun b ρ1 => if b = true then .ok true ρ1 else e ρ1
def sIf (c : STs) (fa fb : SE) : SE := fun ρ => (c ρ).bnd fun b ρ1 => if b = true then fa ρ1 else fb ρ1
/-- a test as a value (a bool) -/
def sBool (c : STs) : SE := fun ρ => (c ρ).bnd fun b ρ1 => .ok (.fr (.bool b)) ρ1
/-- a or b, a and b, as values -/
def sOrV (fa fb : SE) : SE := fun ρ => (fa ρ).frd fun x ρ1 => if okTruth x then (if truth x = true then .ok (.fr x) ρ1 else fb ρ1) else .bad
def sAndV (fa fb : SE) : SE := fun ρ => (fa ρ).frd fun x ρ1 => if okTruth x then (if truth x = true then fb ρ1 else .ok (.fr x) ρ1) else .bad
def sChain (g g' : D → D → Option B) (fa fb fc : SE) : SE := fun ρ => (fa ρ).frd fun x ρ1 => (fb ρ1).frd fun y ρ2 => (lft (g x y) ρ2).frd fun w ρ3 => (lft (bOf w) ρ3).bnd fun k ρ4 =>
  if k = true then (fc ρ4).frd fun z ρ5 => lft (g' y z) ρ5 else .ok (.fr (.bool false)) ρ4
end FK

set_option Elab.async false
set_option linter.all false
set_option maxRecDepth 100000
/-! FK 3: expressions and tests. -/
namespace FK
open PySem PySem.Spec PyProof.Rows L2

section
variable {X : Cx}
theorem PE.mono {e : Expr} {t t' : TE} (h : PE X e t) (f : ∀ σ H Q, t' σ H Q → t σ H Q) : PE X e t' := ⟨fun pins s σ H Q I q => h.run pins s σ H Q I (f σ H Q q)⟩
theorem PT.mono {e : Expr} {t t' : TT} (h : PT X e t) (f : ∀ σ H Q, t' σ H Q → t σ H Q) : PT X e t' := ⟨fun pins s σ H Q I q => h.run pins s σ H Q I (f σ H Q q)⟩
theorem PW.mono {e : Expr} {t t' : TT} (h : PW X e t) (f : ∀ σ H Q, t' σ H Q → t σ H Q) : PW X e t' := ⟨fun wh pins s σ H Q I q => h.run wh pins s σ H Q I (f σ H Q q)⟩
theorem PA.mono {e : List Expr} {t t' : TA} (h : PA X e t) (f : ∀ σ H Q, t' σ H Q → t σ H Q) : PA X e t' := ⟨fun p pins s σ H Q I q => h.run p pins s σ H Q I (f σ H Q q)⟩
theorem PS.mono {e : Stmt} {t t' : TS} (h : PS X e t) (f : ∀ D σ H, t' D σ H → t D σ H) : PS X e t' := ⟨fun pins s σ H D I q => h.run pins s σ H D I (f D σ H q)⟩
theorem PSs.mono {e : List Stmt} {t t' : TS} (h : PSs X e t) (f : ∀ D σ H, t' D σ H → t D σ H) : PSs X e t' := ⟨fun pins s σ H D I q => h.run pins s σ H D I (f D σ H q)⟩
end

section
variable {X : Cx} {T : Tx} {W : WX} {a b c e : Expr} {es : List Expr} {fa fb fc : SE} {fs : SA} {ct et : STs} {pos p : Pos}
theorem e_var {i : Nat} {x : Str} (hN : X.N[i]? = some x) (hv : Vis X.env.scope x) (hd : (x == ("__debug__" : Str)) = false) (hcd : (x == ("__classdict__" : Str)) = false) : PE X (.Name x pos) (tE T W (sVar i)) := by
  refine PE.mono (pe_var hN hv hd hcd) fun σ H Q ⟨Hz, ρ, F, z, h⟩ => ?_
  unfold sVar at h
  cases q : ρ[i]? with
  | none => rw [q] at h; cases h
  | some b =>
    rw [q] at h
    cases b with
    | fr d =>
      obtain ⟨v, h1, m⟩ := z.slot i _ q (fun w => nomatch w)
      exact ⟨v, h1, h.fin z m.2⟩
    | _ => cases h
theorem e_const {t : TE} {v : V} {d : D} (he : PE X e t) (ht : t = tC v) (r : ∀ K Hz, Rep K Hz v d) : PE X e (tE T W (sC d)) := by
  subst ht
  exact PE.mono he fun σ H Q ⟨Hz, ρ, F, z, h⟩ => h.fin z (r _ _)
theorem e_int {i : Int} {j : Nat} : PE X (.Constant (.int i) j pos) (tE T W (sC (.int i))) := e_const pe_int rfl fun _ _ => .int i
theorem e_bl {b : Bool} {j : Nat} : PE X (.Constant (.bool b) j pos) (tE T W (sC (.bool b))) := e_const pe_bl rfl fun _ _ => .bl b
theorem e_non {j : Nat} : PE X (.Constant .none j pos) (tE T W (sC .none)) := e_const pe_non rfl fun _ _ => .non
theorem e_str {x : Str} {j : Nat} : PE X (.Constant (.str x) j pos) (tE T W (sC (.str x))) := e_const pe_str rfl fun _ _ => .str x

/-- the operands' common part -/
theorem two {g : D → D → Option B} {σ : L2.St} {H : Hp} {Q : VK} (h : tE T W (sBin g fa fb) σ H Q) : tOp (rOf T.K g) (tE T W fa) (tE T W fb) σ H Q := by
  obtain ⟨Hz, ρ, F, z, h⟩ := h
  refine ⟨Hz, ρ, F, z, Aft.imp (Aft.frd h) fun v H1 ⟨Hz1, F1, d, ρ1, z1, s1, r1, q1⟩ => ?_⟩
  refine ⟨Hz1, ρ1, F1, z1, Aft.imp (Aft.frd (q1.fromB s1)) fun u H2 ⟨Hz2, F2, e, ρ2, z2, s2, r2, q2⟩ => ?_⟩
  cases hg : g d e with
  | none => rw [hg] at q2; cases q2
  | some b =>
    rw [hg] at q2
    exact ⟨Hz2, d, e, b, z2.sub, r1.mono s2.z, r2, hg, fun v H' n => (q2.fromB s2).made z2 n⟩
theorem e_op {op : Operator} {g : D → D → Option B} (ho : OpR X (binaryOp op) (rOf T.K g)) (ha : PE X a (tE T W fa)) (hb : PE X b (tE T W fb)) : PE X (.BinOp a op b pos) (tE T W (sBin g fa fb)) :=
  PE.mono (pe_op ho ha hb) fun _ _ _ h => two h
theorem e_cmp {op : CmpOp} {g : D → D → Option B} (ho : OpR X (compareOp op) (rOf T.K g)) (ha : PE X a (tE T W fa)) (hb : PE X b (tE T W fb)) (hm : behindInMarks op b = false) : PE X (.Compare a [op] [b] pos) (tE T W (sBin g fa fb)) :=
  PE.mono (pe_cmpR ho ha hb hm) fun _ _ _ h => two h
theorem e_un {op : UnaryOp} {g : D → Option B} (ho : UnR X (unaryOp op) (rOf1 T.K g)) (ha : PE X a (tE T W fa)) : PE X (.UnaryOp op a pos) (tE T W (sUn g fa)) := by
  refine PE.mono (pe_un ho ha) fun σ H Q ⟨Hz, ρ, F, z, h⟩ => ?_
  refine ⟨Hz, ρ, F, z, Aft.imp (Aft.frd h) fun v H1 ⟨Hz1, F1, d, ρ1, z1, s1, r1, q1⟩ => ?_⟩
  cases hg : g d with
  | none => rw [hg] at q1; cases q1
  | some b =>
    rw [hg] at q1
    exact ⟨Hz1, d, b, z1.sub, r1, hg, fun v H' n => (q1.fromB s1).made z1 n⟩
theorem a_nil : PA X [] (tA T W sNil) := PA.mono pa_nil fun σ H Q ⟨Hz, ρ, F, z, h⟩ => h [] Hz H F z .refl .nil
theorem a_cons (ha : PE X e (tE T W fa)) (hr : PA X es (tA T W fs)) (hs : starEach (e :: es) X.env = (false, eval e X.env) :: starEach es X.env) : PA X (e :: es) (tA T W (sCons fa fs)) := by
  refine PA.mono (pa_cons ha hr hs) fun σ H Q ⟨Hz, ρ, F, z, h⟩ => ?_
  refine ⟨Hz, ρ, F, z, Aft.imp (Aft.frd h) fun v H1 ⟨Hz1, F1, d, ρ1, z1, s1, r1, q1⟩ => ?_⟩
  refine ⟨Hz1, ρ1, F1, z1, Aft.imp (Aft.bnd (P := PL T.K) (q1.fromL s1)) fun vs H2 ⟨Hz2, F2, ds, ρ2, z2, s2, r2, q2⟩ => ?_⟩
  exact (q2.fromL s2) (v :: vs) Hz2 H2 F2 z2 .refl (.cons (r1.mono s2.z) r2)
theorem e_tup {x1 : Nat} (h : PA X es (tA T W fs)) : PE X (.Tuple es x1 pos) (tE T W (sApp gTuple fs)) := by
  refine PE.mono (pe_tup h) fun σ H Q ⟨Hz, ρ, F, z, h⟩ => ?_
  refine ⟨Hz, ρ, F, z, Aft.imp (Aft.bnd (P := PL T.K) h) fun vs H1 ⟨Hz1, F1, ds, ρ1, z1, s1, r1, q1⟩ => ?_⟩
  unfold gTuple at q1
  by_cases hl : ds.length ≤ sizeLine
  · rw [if_pos hl] at q1
    exact ⟨by rw [r1.length]; exact hl, fun p hp => (q1.fromB s1).made z1 (.tup z1.sub hp r1)⟩
  · rw [if_neg hl] at q1; cases q1
theorem e_lst (h : PA X es (tA T W fs)) : PE X (.List es pos) (tE T W (sApp gList fs)) := by
  refine PE.mono (pe_lst h) fun σ H Q ⟨Hz, ρ, F, z, h⟩ => ?_
  refine ⟨Hz, ρ, F, z, Aft.imp (Aft.bnd (P := PL T.K) h) fun vs H1 ⟨Hz1, F1, ds, ρ1, z1, s1, r1, q1⟩ => ?_⟩
  unfold gList at q1
  by_cases hl : ds.length ≤ sizeLine
  · rw [if_pos hl] at q1
    exact ⟨by rw [r1.length]; exact hl, fun p hp => (q1.fromB s1).made z1 (.lst z1.sub hp r1)⟩
  · rw [if_neg hl] at q1; cases q1
/-- what a built-in call asks -/
theorem many {g : List D → Option B} {σ : L2.St} {H : Hp} {Q : VK} (h : tE T W (sApp g fs) σ H Q) : tCB (rOfN T.K g) (tA T W fs) σ H Q := by
  obtain ⟨Hz, ρ, F, z, h⟩ := h
  refine ⟨Hz, ρ, F, z, Aft.imp (Aft.bnd (P := PL T.K) h) fun vs H1 ⟨Hz1, F1, ds, ρ1, z1, s1, r1, q1⟩ => ?_⟩
  cases hg : g ds with
  | none => rw [hg] at q1; cases q1
  | some b =>
    rw [hg] at q1
    exact ⟨Hz1, ds, b, z1.sub, r1, hg, fun v H' n => (q1.fromB s1).made z1 n⟩
theorem e_callB {x : Str} {id : String} {g : List D → Option B} (hc : CallR X (.builtin id) (rOfN T.K g)) (hg : Gl X x) (hm : X.mg x = none) (hv : bootBuiltins x = some (.builtin id)) (ha : PA X (e :: es) (tA T W fs)) (hn : x ≠ "__name__") (hdb : (x == ("__debug__" : Str)) = false)
    (he : starEach (e :: es) X.env = (false, eval e X.env) :: starEach es X.env) (hpl : (backTo pos (starEach es X.env)).any (·.1) = false) : PE X (.Call (.Name x p) (e :: es) [] pos) (tE T W (sApp g fs)) :=
  PE.mono (pe_callB hc hg hm hv ha hn hdb he hpl) fun _ _ _ h => many h
theorem e_callTy {x : Str} {ty : String} {g : List D → Option B} (hc : CallR X (.type ty) (rOfN T.K g)) (hg : Gl X x) (hm : X.mg x = none) (hv : bootBuiltins x = some (.type ty)) (ha : PA X (e :: es) (tA T W fs)) (hn : x ≠ "__name__") (hdb : (x == ("__debug__" : Str)) = false)
    (he : starEach (e :: es) X.env = (false, eval e X.env) :: starEach es X.env) (hpl : (backTo pos (starEach es X.env)).any (·.1) = false) : PE X (.Call (.Name x p) (e :: es) [] pos) (tE T W (sApp g fs)) :=
  PE.mono (pe_callTy hc hg hm hv ha hn hdb he hpl) fun _ _ _ h => many h

/-! ### truth -/
theorem rd_lst {K : Fg} {H : Hp} {p : Addr} {xs : List V} (h : SqL K H p xs) : SqL K H p xs := h
theorem truV_of {K : Fg} {Hz H : Hp} {x : V} {d : D} (hs : Same Hz H) (hd : okTruth d = true) (r : Rep K Hz x d) : TruV K x H (truth d) := by
  cases r with
  | non => exact rfl
  | bl b => exact rfl
  | int i => exact rfl
  | str y =>
    refine ⟨of_decide_eq_true hd, ?_⟩
    show (y.length != 0) = ((y.length : Int) != 0)
    by_cases e : y.length = 0
    · rw [e]; rfl
    · have e2 : ((y.length : Nat) : Int) ≠ 0 := by omega
      rw [bne_iff_ne.mpr e, bne_iff_ne.mpr e2]
  | lst h rr =>
    refine .inl ⟨_, sqL_same hs h, ?_⟩
    cases rr <;> rfl
  | tup h rr =>
    refine .inr (.inl ⟨_, seqT_same hs h, ?_⟩)
    cases rr <;> rfl
  | dK h rr => cases hd
  | dT h rr => cases hd
end
end FK

set_option Elab.async false
set_option linter.all false
set_option maxRecDepth 100000
/-! FK 4: tests, and or not, chains. -/
namespace FK
open PySem PySem.Spec PyProof.Rows L2
theorem rep_bl {K : Fg} {Hz : Hp} {v : V} {b : Bool} (h : Rep K Hz v (.bool b)) : v = .bl b := by cases h; rfl
theorem bOf_some {d : D} {b : Bool} (h : bOf d = some b) : d = .bool b := by
  cases d with
  | bool c => cases h; rfl
  | _ => cases h
section
variable {X : Cx} {T : Tx} {W : WX} {a b c e : Expr} {es : List Expr} {fa fb fc : SE} {fs : SA} {ct et : STs} {pos p : Pos}
theorem Aft.lft {T : Tx} {W : WX} {Hz H : Hp} {F : Nat → List Addr} {σ : L2.St} {ρ : Env} {α β : Type} {P : α → β → Hp → Hp → Hp → (Nat → List Addr) → Prop} {o : Option α} {Q : β → Hp → Prop} (h : Aft T W Hz H F σ P (lft o ρ) Q) : ∃ a, o = some a ∧ Aft T W Hz H F σ P (.ok a ρ) Q := by
  cases o with
  | none => cases h
  | some a => exact ⟨a, rfl, h⟩
theorem e_truth {X : Cx} {T : Tx} (hK : X.K = T.K) {σ : L2.St} {H : Hp} {Q : Bool → Hp → Prop} (h : tT T W (sTru fa) σ H Q) : tE T W fa σ H fun x H' => ∃ k, TruV X.K x H' k ∧ Q k H' := by
  obtain ⟨Hz, ρ, F, z, h⟩ := h
  refine ⟨Hz, ρ, F, z, Aft.imp (Aft.frd h) fun v H1 ⟨Hz1, F1, d, ρ1, z1, s1, r1, q1⟩ => ?_⟩
  by_cases ho : okTruth d = true
  · rw [if_pos ho] at q1
    rw [hK]
    exact ⟨truth d, truV_of z1.sub ho r1, (q1.fromT s1) (truth d) Hz1 H1 F1 z1 .refl rfl⟩
  · rw [if_neg ho] at q1; cases q1
theorem t_tru (hK : X.K = T.K) (ha : PE X a (tE T W fa)) (he : ∀ whole, isTrue a X.env whole = (do let v ← whole; standAt a.pos; holding [v] (truthy v))) : PT X a (tT T W (sTru fa)) :=
  PT.mono (pt_truth ha he) fun _ _ _ h => e_truth hK h
theorem test_two {g : D → D → Option B} {σ : L2.St} {H : Hp} {Q : Bool → Hp → Prop} (h : tT T W (sTest (sBin g fa fb)) σ H Q) : tTest (tOp (rOf T.K g) (tE T W fa) (tE T W fb)) σ H Q := by
  refine two ?_
  obtain ⟨Hz, ρ, F, z, h⟩ := h
  refine ⟨Hz, ρ, F, z, Aft.imp (Aft.frd h) fun v H1 ⟨Hz1, F1, d, ρ1, z1, s1, r1, q1⟩ => ?_⟩
  obtain ⟨k, e, q1⟩ := q1.lft
  rw [bOf_some e] at r1
  exact ⟨k, rep_bl r1, (q1.fromT s1) k Hz1 H1 F1 z1 .refl rfl⟩
theorem t_cmp {op : CmpOp} {g : D → D → Option B} (ho : OpR X (compareOp op) (rOf T.K g)) (ha : PE X a (tE T W fa)) (hb : PE X b (tE T W fb)) (hm : behindInMarks op b = false) : PT X (.Compare a [op] [b] pos) (tT T W (sTest (sBin g fa fb))) :=
  PT.mono (pt_cmpR ho ha hb hm) fun _ _ _ h => test_two h
theorem t_not (h : PT X a (tT T W ct)) : PT X (.UnaryOp .Not a pos) (tT T W (sNotT ct)) := by
  refine PT.mono (pt_not h) fun σ H Q ⟨Hz, ρ, F, z, h⟩ => ?_
  refine ⟨Hz, ρ, F, z, Aft.imp (Aft.bnd (P := PT_) h) fun b H1 ⟨Hz1, F1, c, ρ1, z1, s1, r1, q1⟩ => ?_⟩
  cases r1
  exact (q1.fromT s1) _ Hz1 H1 F1 z1 .refl rfl
theorem w_one (h : PT X a (tT T W ct)) (op : BoolOp) : PW X (.BoolOp op [a] pos) (tT T W ct) := by
  cases op with
  | And => exact pw_and1 h
  | Or => exact pw_or1 h
theorem w_and {rest : List Expr} (h : PT X a (tT T W ct)) (hb : PW X (.BoolOp .And (b :: rest) pos) (tT T W et)) : PW X (.BoolOp .And (a :: b :: rest) pos) (tT T W (sAndT ct et)) := by
  refine PW.mono (pw_and h hb) fun σ H Q ⟨Hz, ρ, F, z, h⟩ => ?_
  refine ⟨Hz, ρ, F, z, Aft.imp (Aft.bnd (P := PT_) h) fun bb H1 ⟨Hz1, F1, kk, ρ1, z1, s1, r1, q1⟩ => ?_⟩
  cases r1
  cases bb with
  | true => exact iteT ⟨Hz1, ρ1, F1, z1, q1.fromT s1⟩
  | false => exact iteF ((q1.fromT s1) false Hz1 H1 F1 z1 .refl rfl)
theorem w_or {rest : List Expr} (h : PT X a (tT T W ct)) (hb : PW X (.BoolOp .Or (b :: rest) pos) (tT T W et)) : PW X (.BoolOp .Or (a :: b :: rest) pos) (tT T W (sOrT ct et)) := by
  refine PW.mono (pw_or h hb) fun σ H Q ⟨Hz, ρ, F, z, h⟩ => ?_
  refine ⟨Hz, ρ, F, z, Aft.imp (Aft.bnd (P := PT_) h) fun bb H1 ⟨Hz1, F1, kk, ρ1, z1, s1, r1, q1⟩ => ?_⟩
  cases r1
  cases bb with
  | false => exact iteF ⟨Hz1, ρ1, F1, z1, q1.fromT s1⟩
  | true => exact iteT ((q1.fromT s1) true Hz1 H1 F1 z1 .refl rfl)
theorem e_if (hc : PT X c (tT T W ct)) (ha : PE X a (tE T W fa)) (hb : PE X b (tE T W fb)) : PE X (.IfExp c a b pos) (tE T W (sIf ct fa fb)) := by
  refine PE.mono (pe_ifExp hc ha hb) fun σ H Q ⟨Hz, ρ, F, z, h⟩ => ?_
  refine ⟨Hz, ρ, F, z, Aft.imp (Aft.bnd (P := PT_) h) fun bb H1 ⟨Hz1, F1, kk, ρ1, z1, s1, r1, q1⟩ => ?_⟩
  cases r1
  cases bb with
  | false => exact iteF ⟨Hz1, ρ1, F1, z1, q1.fromB s1⟩
  | true => exact iteT ⟨Hz1, ρ1, F1, z1, q1.fromB s1⟩
theorem e_or (hK : X.K = T.K) {rest : List Expr} (ha : PE X a (tE T W fa)) (hb : PE X (.BoolOp .Or (b :: rest) pos) (tE T W fb)) : PE X (.BoolOp .Or (a :: b :: rest) pos) (tE T W (sOrV fa fb)) := by
  refine PE.mono (pe_orT ha hb) fun σ H Q ⟨Hz, ρ, F, z, h⟩ => ?_
  refine ⟨Hz, ρ, F, z, Aft.imp (Aft.frd h) fun v H1 ⟨Hz1, F1, d, ρ1, z1, s1, r1, q1⟩ => ?_⟩
  by_cases ho : okTruth d = true
  · rw [if_pos ho] at q1
    rw [hK]
    refine ⟨truth d, truV_of z1.sub ho r1, ?_⟩
    by_cases ht : truth d = true
    · rw [if_pos ht] at q1 ⊢
      exact (q1.fromB s1).fin z1 r1
    · rw [if_neg ht] at q1 ⊢
      exact ⟨Hz1, ρ1, F1, z1, q1.fromB s1⟩
  · rw [if_neg ho] at q1; cases q1
theorem e_and (hK : X.K = T.K) {rest : List Expr} (ha : PE X a (tE T W fa)) (hb : PE X (.BoolOp .And (b :: rest) pos) (tE T W fb)) : PE X (.BoolOp .And (a :: b :: rest) pos) (tE T W (sAndV fa fb)) := by
  refine PE.mono (pe_andT ha hb) fun σ H Q ⟨Hz, ρ, F, z, h⟩ => ?_
  refine ⟨Hz, ρ, F, z, Aft.imp (Aft.frd h) fun v H1 ⟨Hz1, F1, d, ρ1, z1, s1, r1, q1⟩ => ?_⟩
  by_cases ho : okTruth d = true
  · rw [if_pos ho] at q1
    rw [hK]
    refine ⟨truth d, truV_of z1.sub ho r1, ?_⟩
    by_cases ht : truth d = true
    · rw [if_pos ht] at q1 ⊢
      exact ⟨Hz1, ρ1, F1, z1, q1.fromB s1⟩
    · rw [if_neg ht] at q1 ⊢
      exact (q1.fromB s1).fin z1 r1
  · rw [if_neg ho] at q1; cases q1
theorem e_one {op : BoolOp} (h : PE X a (tE T W fa)) : PE X (.BoolOp op [a] pos) (tE T W fa) := pe_one h
theorem e_not (hK : X.K = T.K) (ha : PE X a (tE T W fa)) : PE X (.UnaryOp .Not a pos) (tE T W (sNotV fa)) := by
  refine PE.mono (pe_notT ha) fun σ H Q ⟨Hz, ρ, F, z, h⟩ => ?_
  refine ⟨Hz, ρ, F, z, Aft.imp (Aft.frd h) fun v H1 ⟨Hz1, F1, d, ρ1, z1, s1, r1, q1⟩ => ?_⟩
  by_cases ho : okTruth d = true
  · rw [if_pos ho] at q1
    rw [hK]
    exact ⟨truth d, truV_of z1.sub ho r1, (q1.fromB s1).fin z1 (.bl _)⟩
  · rw [if_neg ho] at q1; cases q1
theorem chain_ {g g' : D → D → Option B} {σ : L2.St} {H : Hp} {Q : VK} (h : tE T W (sChain g g' fa fb fc) σ H Q) : tChain (rOf T.K g) (rOf T.K g') (tE T W fa) (tE T W fb) (tE T W fc) σ H Q := by
  obtain ⟨Hz, ρ, F, z, h⟩ := h
  refine ⟨Hz, ρ, F, z, Aft.imp (Aft.frd h) fun v H1 ⟨Hz1, F1, d, ρ1, z1, s1, r1, q1⟩ => ?_⟩
  refine ⟨Hz1, ρ1, F1, z1, Aft.imp (Aft.frd (q1.fromB s1)) fun u H2 ⟨Hz2, F2, e, ρ2, z2, s2, r2, q2⟩ => ?_⟩
  have q3 := q2.fromB s2
  cases hg : g d e with
  | none => rw [hg] at q3; cases q3
  | some b =>
    rw [hg] at q3
    refine ⟨Hz2, d, e, b, z2.sub, r1.mono s2.z, r2, hg, fun v' H' n => ?_⟩
    have q4 : Aft T W Hz2 H2 F2 σ (PB T.K F2) (.ok b ρ2) fun v H1 => ∃ Hz1 F1 d ρ1, Zone T.K Hz1 H1 σ ρ1 F1 ∧ Step Hz2 H2 F2 Hz1 H1 F1 ∧ Rep T.K Hz1 v d ∧ Aft T W Hz2 H2 F2 σ (PB T.K F2) ((FK.lft (bOf d) ρ1).bnd fun k ρ4 =>
      if k = true then (fc ρ4).frd fun z ρ5 => FK.lft (g' e z) ρ5 else .ok (.fr (.bool false)) ρ4) Q := Aft.frd q3
    obtain ⟨Hz3, F3, w, ρ3, z3, s3, r3, q5⟩ := q4.made z2 n
    cases hw : bOf w with
    | none => rw [hw] at q5; cases q5
    | some k =>
      rw [hw] at q5
      rw [bOf_some hw] at r3
      refine ⟨k, rep_bl r3, ?_⟩
      have q6 := q5.fromB s3
      cases k with
      | false =>
        refine iteF ?_
        have q7 : Aft T W Hz3 H' F3 σ (PB T.K F3) (.ok (.fr (.bool false)) ρ3) Q := q6
        exact q7.fin z3 (.bl _)
      | true =>
        refine iteT ?_
        have q7 : Aft T W Hz3 H' F3 σ (PB T.K F3) ((fc ρ3).frd fun z ρ5 => FK.lft (g' e z) ρ5) Q := q6
        refine ⟨Hz3, ρ3, F3, z3, Aft.imp (Aft.frd q7) fun u' H4 ⟨Hz4, F4, e4, ρ4, z4, s4, r4, q8⟩ => ?_⟩
        cases hg' : g' e e4 with
        | none => rw [hg'] at q8; cases q8
        | some b' =>
          rw [hg'] at q8
          exact ⟨Hz4, e, e4, b', z4.sub, r2.mono (s3.z.trans s4.z), r4, hg', fun v H' n => (q8.fromB s4).made z4 n⟩
theorem e_chain {op op' : CmpOp} {g g' : D → D → Option B} (ho : OpR X (compareOp op) (rOf T.K g)) (ho' : OpR X (compareOp op') (rOf T.K g')) (ha : PE X a (tE T W fa)) (hb : PE X b (tE T W fb)) (hc : PE X c (tE T W fc)) (hm : lastMarks [op, op'] [b, c] = false) :
    PE X (.Compare a [op, op'] [b, c] pos) (tE T W (sChain g g' fa fb fc)) := PE.mono (pe_chain ho ho' ha hb hc hm) fun _ _ _ h => chain_ h
theorem t_chain {op op' : CmpOp} {g g' : D → D → Option B} (ho : OpR X (compareOp op) (rOf T.K g)) (ho' : OpR X (compareOp op') (rOf T.K g')) (ha : PE X a (tE T W fa)) (hb : PE X b (tE T W fb)) (hc : PE X c (tE T W fc)) (hm : lastMarks [op, op'] [b, c] = false) :
    PT X (.Compare a [op, op'] [b, c] pos) (tT T W (sTest (sChain g g' fa fb fc))) := by
  refine PT.mono (pt_chain ho ho' ha hb hc hm) fun σ H Q ⟨Hz, ρ, F, z, h⟩ => chain_ ?_
  refine ⟨Hz, ρ, F, z, Aft.imp (Aft.frd h) fun v H1 ⟨Hz1, F1, d, ρ1, z1, s1, r1, q1⟩ => ?_⟩
  obtain ⟨k, e, q1⟩ := q1.lft
  rw [bOf_some e] at r1
  exact ⟨k, rep_bl r1, (q1.fromT s1) k Hz1 H1 F1 z1 .refl rfl⟩
end
end FK

set_option Elab.async false
set_option linter.all false
set_option maxRecDepth 100000
/-! FK 5: statements, targets, loops. -/
namespace FK
open PySem PySem.Spec PyProof.Rows L2

/-- the slots out of L are as they were -/
def Chg (L : List Nat) (σ σ' : L2.St) : Prop := σ'.length = σ.length ∧ ∀ i, i ∉ L → σ'[i]? = σ[i]?
def Prot (P : List Nat) (σ σ' : L2.St) : Prop := σ'.length = σ.length ∧ ∀ i, i ∈ P → σ'[i]? = σ[i]?
theorem Prot.refl (P : List Nat) (σ : L2.St) : Prot P σ σ := ⟨rfl, fun _ _ => rfl⟩
theorem Prot.trans {P : List Nat} {a b c : L2.St} (h : Prot P a b) (k : Prot P b c) : Prot P a c := ⟨k.1.trans h.1, fun i hi => (k.2 i hi).trans (h.2 i hi)⟩
theorem Chg.refl (L : List Nat) (σ : L2.St) : Chg L σ σ := ⟨rfl, fun _ _ => rfl⟩
theorem Chg.trans {L M : List Nat} {a b c : L2.St} (h : Chg L a b) (k : Chg M b c) : Chg (L ++ M) a c := ⟨k.1.trans h.1, fun i hi => (k.2 i fun z => hi (List.mem_append_right _ z)).trans (h.2 i fun z => hi (List.mem_append_left _ z))⟩
theorem Chg.prot {L P : List Nat} {a b : L2.St} (h : Chg L a b) (d : ∀ i ∈ P, i ∉ L) : Prot P a b := ⟨h.1, fun i hi => h.2 i (d i hi)⟩

def AftS (T : Tx) (W : WX) (P : List Nat) (Hz H : Hp) (F : Nat → List Addr) (σ : L2.St) (r : RS) (D : Ends) : Prop := match r with
  | .bad => False
  | .nx ρ' => ∀ σ' Hz' H' F', Zone T.K Hz' H' σ' ρ' F' → Step Hz H F Hz' H' F' → Prot P σ σ' → D.nx σ' H'
  | .bk ρ' => ∀ σ' Hz' H' F', Zone T.K Hz' H' σ' ρ' F' → Step Hz H F Hz' H' F' → Prot P σ σ' → D.bk σ' H'
  | .ct ρ' => ∀ σ' Hz' H' F', Zone T.K Hz' H' σ' ρ' F' → Step Hz H F Hz' H' F' → Prot P σ σ' → D.ct σ' H'
  | .rt b ρ' => ∀ v σ' Hz' H' F', Zone T.K Hz' H' σ' ρ' F' → Step Hz H F Hz' H' F' → Prot P σ σ' → PB T.K F b v H Hz' H' F' → D.rt v H'
  | .exc x ρ' => ∀ cls d σ' Hz' H' F', Zone T.K Hz' H' σ' ρ' F' → Step Hz H F Hz' H' F' → Prot P σ σ' → T.xr x Hz' cls d H' → W cls d σ' H'
def tS (T : Tx) (W : WX) (P : List Nat) (f : SS) : TS := fun D σ H => ∃ Hz ρ F, Zone T.K Hz H σ ρ F ∧ AftS T W P Hz H F σ (f ρ) D
def AftG (T : Tx) (L : List Nat) (Hz H : Hp) (F : Nat → List Addr) (σ : L2.St) (o : Option Env) (Q : L2.St → Hp → Prop) : Prop := match o with
  | none => False
  | some ρ' => ∀ σ' Hz' H' F', Zone T.K Hz' H' σ' ρ' F' → Step Hz H F Hz' H' F' → Chg L σ σ' → Q σ' H'
abbrev SG := D → Env → Option Env
def tG (T : Tx) (L : List Nat) (g : SG) : TG := fun v σ H Q => ∃ Hz ρ F d, Zone T.K Hz H σ ρ F ∧ Rep T.K Hz v d ∧ AftG T L Hz H F σ (g d ρ) Q
abbrev SGs := List D → Env → Option Env
def tGs (T : Tx) (L : List Nat) (g : SGs) : TGs := fun vs σ H Q => ∃ Hz ρ F ds, Zone T.K Hz H σ ρ F ∧ RepL T.K Hz vs ds ∧ AftG T L Hz H F σ (g ds ρ) Q

section
variable {T : Tx} {W : WX} {P L : List Nat} {Hz H Hz1 H1 : Hp} {F F1 : Nat → List Addr} {σ σ1 : L2.St} {ρ : Env} {D : Ends}
theorem AftS.from {r : RS} (h : AftS T W P Hz H F σ r D) (s : Step Hz H F Hz1 H1 F1) (p : Prot P σ σ1) : AftS T W P Hz1 H1 F1 σ1 r D := by
  cases r with
  | bad => exact h
  | nx ρ' => exact fun σ' Hz' H' F' z st q => h σ' Hz' H' F' z (s.trans st) (p.trans q)
  | bk ρ' => exact fun σ' Hz' H' F' z st q => h σ' Hz' H' F' z (s.trans st) (p.trans q)
  | ct ρ' => exact fun σ' Hz' H' F' z st q => h σ' Hz' H' F' z (s.trans st) (p.trans q)
  | rt b ρ' => exact fun v σ' Hz' H' F' z st q k => h v σ' Hz' H' F' z (s.trans st) (p.trans q) (PB.from s _ _ _ _ _ k)
  | exc x ρ' => exact fun cls d σ' Hz' H' F' z st q k => h cls d σ' Hz' H' F' z (s.trans st) (p.trans q) k
theorem AftS.imp {r : RS} {D' : Ends} (h : AftS T W P Hz H F σ r D) (h1 : ∀ a b, D.nx a b → D'.nx a b) (h2 : ∀ a b, D.bk a b → D'.bk a b) (h3 : ∀ a b, D.ct a b → D'.ct a b) (h4 : ∀ a b, D.rt a b → D'.rt a b) : AftS T W P Hz H F σ r D' := by
  cases r with
  | bad => exact h
  | nx ρ' => exact fun σ' Hz' H' F' z st q => h1 _ _ (h σ' Hz' H' F' z st q)
  | bk ρ' => exact fun σ' Hz' H' F' z st q => h2 _ _ (h σ' Hz' H' F' z st q)
  | ct ρ' => exact fun σ' Hz' H' F' z st q => h3 _ _ (h σ' Hz' H' F' z st q)
  | rt b ρ' => exact fun v σ' Hz' H' F' z st q k => h4 _ _ (h v σ' Hz' H' F' z st q k)
  | exc x ρ' => exact h
/-- an evaluation ahead of a statement -/
theorem AftS.bS {α β : Type} {PP : α → β → Hp → Hp → Hp → (Nat → List Addr) → Prop} {r : Rs α} {k : α → Env → RS} (h : AftS T W P Hz H F σ (r.bS k) D) :
    Aft T W Hz H F σ PP r fun y H1 => ∃ Hz1 F1 a ρ1, Zone T.K Hz1 H1 σ ρ1 F1 ∧ Step Hz H F Hz1 H1 F1 ∧ PP a y H Hz1 H1 F1 ∧ AftS T W P Hz H F σ (k a ρ1) D := by
  cases r with
  | bad => exact h
  | ok a ρ' => exact fun y Hz' H' F' z st p => ⟨Hz', F', a, ρ', z, st, p, h⟩
  | exc x ρ' => exact fun cls d Hz' H' F' z st q => h cls d σ Hz' H' F' z st (.refl _ _) q
theorem new_zone {b : B} {v : V} {H' : Hp} (z : Zone T.K Hz H σ ρ F) (n : New T.K Hz H b v H') : ∃ Hz', Zone T.K Hz' H' σ ρ F ∧ Step Hz H F Hz' H' F ∧ PB T.K F b v H Hz' H' F := by
  obtain ⟨Hz', fp, s1, s2, s3, nz, m, q⟩ := n
  have no : ∀ a, Own F a → Hz' a = none := fun a ha => by
    cases e : Hz' a with
    | none => rfl
    | some o =>
      rcases nz a (by rw [e]; exact fun z => nomatch z) with w | w
      · exact absurd (z.notIn ha) w
      · exact absurd w (z.there ha)
  refine ⟨Hz', z.keep s1 s3 (fun a ha => ?_) no, ⟨s1, fun a o e _ => s2 a o e, fun a e => (nz a e).elim .inl fun w => .inr (.inl w), fun a ha => .inr ha, fun a e => ?_⟩, ⟨fp, m, fun a ha => ⟨(q a ha).1, fun w => z.there w (q a ha).2, .inl (q a ha).2⟩⟩⟩
  · obtain ⟨o, e⟩ := ex_of_ne (z.there ha)
    rw [e]; exact s2 a o e
  · obtain ⟨o, e⟩ := ex_of_ne e
    rw [s2 a o e]; exact fun z => nomatch z

/-! ### a slot is stored -/
def putF (F : Nat → List Addr) (i : Nat) (fp : List Addr) : Nat → List Addr := fun j => if j = i then fp else F j
theorem putF_same {i : Nat} {fp : List Addr} : putF F i fp i = fp := if_pos rfl
theorem putF_ne {i j : Nat} {fp : List Addr} (h : j ≠ i) : putF F i fp j = F j := if_neg h
theorem own_put {i : Nat} {fp : List Addr} {a : Addr} (h : Own (putF F i fp) a) : a ∈ fp ∨ ∃ j, j ≠ i ∧ a ∈ F j := by
  obtain ⟨j, hj⟩ := h
  by_cases e : j = i
  · subst e; rw [putF_same] at hj; exact .inl hj
  · rw [putF_ne e] at hj; exact .inr ⟨j, e, hj⟩
theorem Zone.store {K : Fg} {i : Nat} {b : B} {v : V} {fp : List Addr} (z : Zone K Hz H σ ρ F) (hi : i < ρ.length) (m : MRep K Hz H fp v b) (q : ∀ a ∈ fp, Hz a = none ∧ ¬ Own F a) : Zone K Hz H (σ.set i (some v)) (ρ.set i b) (putF F i fp) where
  sub := z.sub
  len := by rw [List.length_set, List.length_set]; exact z.len
  slot := fun j c h hc => by
    by_cases e : j = i
    · subst e
      rw [List.getElem?_set_self hi] at h
      cases h
      exact ⟨v, List.getElem?_set_self (by rw [← z.len]; exact hi), by rw [putF_same]; exact m⟩
    · rw [List.getElem?_set_ne (Ne.symm e)] at h
      obtain ⟨w, h1, h2⟩ := z.slot j c h hc
      exact ⟨w, by rw [List.getElem?_set_ne (Ne.symm e)]; exact h1, by rw [putF_ne e]; exact h2⟩
  out := fun j a h => by
    by_cases e : j = i
    · subst e; rw [putF_same] at h; exact (q a h).1
    · rw [putF_ne e] at h; exact z.out j a h
  apart := fun j k a h1 h2 => by
    by_cases e : j = i
    · subst e
      rw [putF_same] at h1
      by_cases e2 : k = j
      · exact e2.symm
      · rw [putF_ne e2] at h2; exact absurd ⟨k, h2⟩ (q a h1).2
    · rw [putF_ne e] at h1
      by_cases e2 : k = i
      · subst e2; rw [putF_same] at h2; exact absurd ⟨j, h1⟩ (q a h2).2
      · rw [putF_ne e2] at h2; exact z.apart j k a h1 h2
  dead := fun j h => by
    by_cases e : j = i
    · subst e
      rw [putF_same]
      rcases h with h | h
      · rw [List.getElem?_set_self hi] at h; cases h
      · rw [List.getElem?_set_self hi] at h; cases h; exact m
    · rw [List.getElem?_set_ne (Ne.symm e)] at h
      rw [putF_ne e]; exact z.dead j h
theorem Step.store {i : Nat} {fp : List Addr} (q : ∀ a ∈ fp, H a = none ∨ Own F a) : Step Hz H F Hz H (putF F i fp) :=
  ⟨.refl _, fun _ _ h _ => h, fun _ h => .inl h, fun a h => (own_put h).elim (q a) fun ⟨j, _, hj⟩ => .inr ⟨j, hj⟩, fun _ h => h⟩
/-- .. a temp that came by a step -/
theorem Step.storeAt {i : Nat} {fp : List Addr} (s : Step Hz H F Hz1 H1 F1) (q : ∀ a ∈ fp, H a = none ∨ Own F a) : Step Hz H F Hz1 H1 (putF F1 i fp) :=
  ⟨s.z, s.fr, s.nz, fun a h => (own_put h).elim (q a) fun ⟨j, _, hj⟩ => s.no a ⟨j, hj⟩, s.dom⟩
theorem chg_set {i : Nat} {v : Option V} : Chg [i] σ (σ.set i v) := ⟨List.length_set .., fun j h => List.getElem?_set_ne fun e => h (by simp [e])⟩
end

/-! ### targets -/
def gNm (i : Nat) : SG := fun d ρ => if i < ρ.length then some (ρ.set i (.fr d)) else none
def gTp (n : Nat) (g : SGs) : SG := fun d ρ => match d with
  | .tuple ds => if ds.length = n then g ds ρ else none
  | .list ds => if ds.length = n then g ds ρ else none
  | _ => none
def gsNil : SGs := fun ds ρ => match ds with
  | [] => some ρ
  | _ => none
def gsCons (g : SG) (h : SGs) : SGs := fun ds ρ => match ds with
  | [] => none
  | d :: r => (g d ρ).bind fun ρ1 => h r ρ1
section
variable {X : Cx} {T : Tx} {W : WX} {L M : List Nat} {e : Expr} {es : List Expr} {g : SG} {h : SGs} {pos : Pos}
theorem PG.mono {X : Cx} {e : Expr} {t t' : TG} (h : PG X e t) (f : ∀ v σ H Q, t' v σ H Q → t v σ H Q) : PG X e t' := ⟨fun pins s σ H v u Q I r q => h.run pins s σ H v u Q I r (f v σ H Q q)⟩
theorem PGs.mono {X : Cx} {e : List Expr} {t t' : TGs} (h : PGs X e t) (f : ∀ v σ H Q, t' v σ H Q → t v σ H Q) : PGs X e t' := ⟨fun pins s σ H v u Q I r q => h.run pins s σ H v u Q I r (f v σ H Q q)⟩
theorem g_name {i : Nat} {x : Str} (hN : X.N.Nodup) (hi : X.N[i]? = some x) (hx : Loc X.env.scope x) (hf : X.fn x = true ∨ X.env.scope.names.lookup x = some .local) : PG X (.Name x pos) (tG T [i] (gNm i)) := by
  refine PG.mono (pg_name hN hi hx hf) fun v σ H Q ⟨Hz, ρ, F, d, z, r, h⟩ => ?_
  unfold gNm at h
  by_cases hl : i < ρ.length
  · rw [if_pos hl] at h
    exact h _ Hz H _ (z.store (b := .fr d) (fp := []) hl ⟨rfl, r⟩ fun a ha => nomatch ha) (.store fun a ha => nomatch ha) chg_set
  · rw [if_neg hl] at h; cases h
theorem gs_nil : PGs X [] (tGs T [] gsNil) := by
  refine PGs.mono pgs_nil fun vs σ H Q ⟨Hz, ρ, F, ds, z, r, h⟩ => ?_
  cases r with
  | nil => exact ⟨rfl, h σ Hz H F z .refl (.refl _ _)⟩
  | cons _ _ => cases h
theorem AftG.from {L : List Nat} {Hz H Hz1 H1 : Hp} {F F1 : Nat → List Addr} {σ σ1 : L2.St} {o : Option Env} {Q : L2.St → Hp → Prop} {L1 L2' : List Nat} (h : AftG T L Hz H F σ o Q) (s : Step Hz H F Hz1 H1 F1) (c : Chg L1 σ σ1) (hl : L = L1 ++ L2') : AftG T L2' Hz1 H1 F1 σ1 o Q := by
  subst hl
  cases o with
  | none => exact h
  | some ρ' => exact fun σ' Hz' H' F' z st q => h σ' Hz' H' F' z (s.trans st) (c.trans q)
theorem gs_cons (h1 : PG X e (tG T L g)) (h2 : PGs X es (tGs T M h)) (hs : (assignEach (e :: es) X.env).map (·.2) = assign e X.env :: (assignEach es X.env).map (·.2)) : PGs X (e :: es) (tGs T (L ++ M) (gsCons g h)) := by
  refine PGs.mono (pgs_cons h1 h2 hs) fun vs σ H Q ⟨Hz, ρ, F, ds, z, r, h⟩ => ?_
  cases r with
  | nil => cases h
  | @cons v vs d ds r rr =>
    refine ⟨v, vs, rfl, Hz, ρ, F, d, z, r, ?_⟩
    have h : AftG T (L ++ M) Hz H F σ ((g d ρ).bind fun ρ1 => _) Q := h
    cases e : g d ρ with
    | none => rw [e] at h; cases h
    | some ρ1 =>
      rw [e] at h
      exact fun σ1 Hz1 H1 F1 z1 s1 c1 => ⟨Hz1, ρ1, F1, ds, z1, rr.mono s1.z, h.from s1 c1 rfl⟩
theorem PG.or {e : Expr} {t t' : TG} (h1 : PG X e t) (h2 : PG X e t') : PG X e (fun v σ H Q => t v σ H Q ∨ t' v σ H Q) := ⟨fun pins s σ H v u Q I r hw => hw.elim (h1.run pins s σ H v u Q I r) (h2.run pins s σ H v u Q I r)⟩
theorem g_tup {n : Nat} (hK : X.K = T.K) {k : Nat} (hc : X.calm = true) (hg : PGs X es (tGs T L h)) (hn : (assignEach es X.env).length = n) (hst : (assignEach es X.env).findIdx? (·.1) = none) : PG X (.Tuple es k pos) (tG T L (gTp n h)) := by
  refine PG.mono (PG.or (pg_tup hc hg hn hst) (pg_lst hc hg hn hst)) fun v σ H Q ⟨Hz, ρ, F, d, z, r, h⟩ => ?_
  cases r with
  | @lst a xs ds hq rr =>
    have h : AftG T L Hz H F σ (if ds.length = n then _ else none) Q := h
    by_cases hl : ds.length = n
    · rw [if_pos hl] at h
      exact .inr ⟨_, _, rfl, by rw [hK]; exact sqL_same z.sub hq, by rw [rr.length]; exact hl, Hz, ρ, F, ds, z, rr, h⟩
    · rw [if_neg hl] at h; cases h
  | @tup a xs ds hq rr =>
    have h : AftG T L Hz H F σ (if ds.length = n then _ else none) Q := h
    by_cases hl : ds.length = n
    · rw [if_pos hl] at h
      exact .inl ⟨_, _, rfl, by rw [hK]; exact seqT_same z.sub hq, by rw [rr.length]; exact hl, Hz, ρ, F, ds, z, rr, h⟩
    · rw [if_neg hl] at h; cases h
  | _ => cases h
end

/-! ### statements -/
def sSeq (f g : SS) : SS := fun ρ => match f ρ with
  | .nx ρ' => g ρ'
  | r => r
def sNext : SS := fun ρ => .nx ρ
def sExpr (f : SE) : SS := fun ρ => (f ρ).bS fun _ ρ1 => .nx ρ1
def sRet (f : SE) : SS := fun ρ => (f ρ).bS fun b ρ1 => .rt b ρ1
def sMove (i : Nat) : SE := fun ρ => match ρ[i]? with
  | some (.fr d) => .ok (.fr d) ρ
  | some (.ow d) => .ok (.ow d) (ρ.set i .no)
  | _ => .bad
def sIfS (c : STs) (f g : SS) : SS := fun ρ => (c ρ).bS fun b ρ1 => if b = true then f ρ1 else g ρ1
def frB (keep : Bool) : B → Option B
  | .fr d => some (.fr d)
  | .ow d => some (if keep = true then .ow d else .fr d)
  | _ => none
/-- name = e, the value frozen or kept as it came -/
def sSet (keep : Bool) (i : Nat) (f : SE) : SS := fun ρ => (f ρ).bS fun b ρ1 => match frB keep b with
  | some b' => if i < ρ1.length then .nx (ρ1.set i b') else .bad
  | none => .bad
/-- target = e -/
def sAsg (f : SE) (g : SG) : SS := fun ρ => (f ρ).bS fun b ρ1 => match frz b with
  | some d => (match g d ρ1 with
    | some ρ2 => .nx ρ2
    | none => .bad)
  | none => .bad
def forR (g : SG) (b : SS) : List D → SS
  | [], ρ => .nx ρ
  | d :: ds, ρ => match g d ρ with
    | none => .bad
    | some ρ1 => (match b ρ1 with
      | .nx ρ2 => forR g b ds ρ2
      | .ct ρ2 => forR g b ds ρ2
      | .bk ρ2 => .nx ρ2
      | r => r)
abbrev SI := Env → Rs (List D)
def sFor (it : SI) (g : SG) (b : SS) : SS := fun ρ => (it ρ).bS fun ds ρ1 => forR g b ds ρ1
def whl (c : STs) (b : SS) : Nat → SS
  | 0, _ => .bad
  | n + 1, ρ => (c ρ).bS fun k ρ1 => if k = true then (match b ρ1 with
      | .nx ρ2 => whl c b n ρ2
      | .ct ρ2 => whl c b n ρ2
      | .bk ρ2 => .nx ρ2
      | r => r) else .nx ρ1
open Classical in
noncomputable def sWhile (c : STs) (b : SS) : SS := fun ρ => if h : ∃ n, whl c b n ρ ≠ .bad then whl c b (choose h) ρ else .bad

section
variable {X : Cx} {T : Tx} {W : WX} {P L : List Nat} {e c : Expr} {st : Stmt} {sts rest : List Stmt} {f : SE} {fs gs : SS} {ct : STs} {g : SG} {pos pos' : Pos}
theorem s_nil : PSs X [] (tS T W P sNext) := PSs.mono pss_nil fun D σ H ⟨Hz, ρ, F, z, h⟩ => h σ Hz H F z .refl (.refl _ _)
theorem s_pass : PS X (.Pass pos) (tS T W P sNext) := PS.mono ps_pass fun D σ H ⟨Hz, ρ, F, z, h⟩ => h σ Hz H F z .refl (.refl _ _)
theorem s_break : PS X (.Break pos) (tS T W P fun ρ => .bk ρ) := PS.mono ps_break fun D σ H ⟨Hz, ρ, F, z, h⟩ => h σ Hz H F z .refl (.refl _ _)
theorem s_cont : PS X (.Continue pos) (tS T W P fun ρ => .ct ρ) := PS.mono ps_continue fun D σ H ⟨Hz, ρ, F, z, h⟩ => h σ Hz H F z .refl (.refl _ _)
theorem s_cons (h1 : PS X st (tS T W P fs)) (h2 : PSs X rest (tS T W P gs)) : PSs X (st :: rest) (tS T W P (sSeq fs gs)) := by
  refine PSs.mono (pss_cons h1 h2) fun D σ H ⟨Hz, ρ, F, z, h⟩ => ⟨Hz, ρ, F, z, ?_⟩
  unfold sSeq at h
  cases e : fs ρ with
  | nx ρ' =>
    rw [e] at h
    exact fun σ' Hz' H' F' z' s' p' => ⟨Hz', ρ', F', z', AftS.from h s' p'⟩
  | bad => rw [e] at h; exact h
  | rt _ _ => rw [e] at h; exact h
  | bk _ => rw [e] at h; exact h
  | ct _ => rw [e] at h; exact h
  | exc _ _ => rw [e] at h; exact h
theorem s_expr (he : PE X e (tE T W f)) (hs : swapsWith e none pos.line X.env = pure false) : PS X (.Expr e pos) (tS T W P (sExpr f)) := by
  refine PS.mono (ps_expr he hs) fun D σ H ⟨Hz, ρ, F, z, h⟩ => ⟨Hz, ρ, F, z, Aft.imp (AftS.bS (PP := PB T.K F) h) fun v H1 ⟨Hz1, F1, b, ρ1, z1, s1, r1, q1⟩ => ?_⟩
  exact q1 σ Hz1 H1 F1 z1 s1 (.refl _ _)
theorem s_doc {x : Str} {j : Nat} : PS X (.Expr (.Constant (.str x) j pos) pos') (tS T W P sNext) := PS.mono ps_doc fun D σ H ⟨Hz, ρ, F, z, h⟩ => h σ Hz H F z .refl (.refl _ _)
theorem s_ret (he : PE X e (tE T W f)) : PS X (.Return (some e) pos) (tS T W P (sRet f)) := by
  refine PS.mono (ps_ret he) fun D σ H ⟨Hz, ρ, F, z, h⟩ => ⟨Hz, ρ, F, z, Aft.imp (AftS.bS (PP := PB T.K F) h) fun v H1 ⟨Hz1, F1, b, ρ1, z1, s1, r1, q1⟩ => ?_⟩
  exact q1 v σ Hz1 H1 F1 z1 s1 (.refl _ _) r1
theorem s_retN : PS X (.Return none pos) (tS T W P fun ρ => .rt (.fr .none) ρ) := PS.mono ps_retN fun D σ H ⟨Hz, ρ, F, z, h⟩ =>
  h .non σ Hz H F z .refl (.refl _ _) ⟨[], ⟨rfl, .non⟩, fun a ha => nomatch ha⟩
theorem Zone.clear {K : Fg} {Hz H : Hp} {σ : L2.St} {ρ : Env} {F : Nat → List Addr} {i : Nat} (z : Zone K Hz H σ ρ F) : Zone K Hz H σ (ρ.set i .no) (putF F i []) where
  sub := z.sub
  len := by rw [List.length_set]; exact z.len
  slot := fun j c h hc => by
    by_cases e : j = i
    · subst e
      by_cases hi : j < ρ.length
      · rw [List.getElem?_set_self hi] at h; cases h; exact absurd rfl hc
      · rw [List.getElem?_eq_none (by simpa using hi)] at h; cases h
    · rw [List.getElem?_set_ne (Ne.symm e)] at h
      rw [putF_ne e]; exact z.slot j c h hc
  out := fun j a h => by
    by_cases e : j = i
    · subst e; rw [putF_same] at h; cases h
    · rw [putF_ne e] at h; exact z.out j a h
  apart := fun j k a h1 h2 => by
    by_cases e : j = i
    · subst e; rw [putF_same] at h1; cases h1
    · by_cases e2 : k = i
      · subst e2; rw [putF_same] at h2; cases h2
      · rw [putF_ne e] at h1; rw [putF_ne e2] at h2; exact z.apart j k a h1 h2
  dead := fun j h => by
    by_cases e : j = i
    · subst e; exact putF_same
    · rw [List.getElem?_set_ne (Ne.symm e)] at h
      rw [putF_ne e]; exact z.dead j h
theorem e_move {i : Nat} {x : Str} (hN : X.N[i]? = some x) (hv : Vis X.env.scope x) (hd : (x == ("__debug__" : Str)) = false) (hcd : (x == ("__classdict__" : Str)) = false) : PE X (.Name x pos) (tE T W (sMove i)) := by
  refine PE.mono (pe_var hN hv hd hcd) fun σ H Q ⟨Hz, ρ, F, z, h⟩ => ?_
  unfold sMove at h
  cases q : ρ[i]? with
  | none => rw [q] at h; cases h
  | some b =>
    rw [q] at h
    cases b with
    | fr d =>
      obtain ⟨v, h1, m⟩ := z.slot i _ q (fun w => nomatch w)
      exact ⟨v, h1, Aft.fin h z m.2⟩
    | ow d =>
      obtain ⟨v, h1, m⟩ := z.slot i _ q (fun w => nomatch w)
      refine ⟨v, h1, h v Hz H _ (z.clear (i := i)) (.store fun a ha => nomatch ha) ⟨F i, m, fun a ha => ⟨z.out i a ha, fun w => ?_, .inr ⟨i, ha⟩⟩⟩⟩
      rcases own_put w with w | ⟨j, hj, w⟩
      · cases w
      · exact hj (z.apart j i a w ha)
    | _ => cases h
theorem s_if {a b : List Stmt} (hc : PT X c (tT T W ct)) (ha : PSs X a (tS T W P fs)) (hb : PSs X b (tS T W P gs)) : PS X (.If c a b pos) (tS T W P (sIfS ct fs gs)) := by
  refine PS.mono (ps_if hc ha hb) fun D σ H ⟨Hz, ρ, F, z, h⟩ => ⟨Hz, ρ, F, z, Aft.imp (AftS.bS (PP := PT_) h) fun bb H1 ⟨Hz1, F1, kk, ρ1, z1, s1, r1, q1⟩ => ?_⟩
  cases r1
  cases bb with
  | true => exact iteT ⟨Hz1, ρ1, F1, z1, AftS.from q1 s1 (.refl _ _)⟩
  | false => exact iteF ⟨Hz1, ρ1, F1, z1, AftS.from q1 s1 (.refl _ _)⟩
/-- a value stored, kept or frozen -/
theorem keepB {Hz H Hz1 H1 : Hp} {F F1 : Nat → List Addr} {σ : L2.St} {ρ1 : Env} {keep : Bool} {b b' : B} {v : V} (hb : frB keep b = some b') (z : Zone T.K Hz1 H1 σ ρ1 F1) (s : Step Hz H F Hz1 H1 F1) (p : PB T.K F b v H Hz1 H1 F1) :
    ∃ Hz2 fp, Zone T.K Hz2 H1 σ ρ1 F1 ∧ Step Hz H F Hz2 H1 F1 ∧ MRep T.K Hz2 H1 fp v b' ∧ ∀ a ∈ fp, Hz2 a = none ∧ ¬ Own F1 a ∧ (H a = none ∨ Own F a) := by
  cases b with
  | no => cases hb
  | ob _ _ => cases hb
  | fr d =>
    cases hb
    obtain ⟨fp, m, q⟩ := p
    exact ⟨Hz1, fp, z, s, m, q⟩
  | ow d =>
    cases keep with
    | true =>
      cases hb
      obtain ⟨fp, m, q⟩ := p
      exact ⟨Hz1, fp, z, s, m, q⟩
    | false =>
      cases hb
      obtain ⟨Hz2, z2, s2, r2⟩ := freeze (b := .ow d) rfl z s p
      exact ⟨Hz2, [], z2, s2, ⟨rfl, r2⟩, fun a ha => nomatch ha⟩
theorem set_aft {Hz H Hz1 H1 : Hp} {F F1 : Nat → List Addr} {σ : L2.St} {ρ1 : Env} {keep : Bool} {i : Nat} {b : B} {v : V} {D : Ends} (hP : i ∉ P) (z : Zone T.K Hz1 H1 σ ρ1 F1) (s : Step Hz H F Hz1 H1 F1) (p : PB T.K F b v H Hz1 H1 F1)
    (h : AftS T W P Hz H F σ (match frB keep b with
      | some b' => if i < ρ1.length then .nx (ρ1.set i b') else .bad
      | none => .bad) D) : D.nx (σ.set i (some v)) H1 := by
  cases e : frB keep b with
  | none => rw [e] at h; cases h
  | some b' =>
    rw [e] at h
    by_cases hl : i < ρ1.length
    · simp only [hl, if_true] at h
      obtain ⟨Hz2, fp, z2, s2, m2, q2⟩ := keepB e z s p
      exact h _ Hz2 H1 _ (z2.store hl m2 fun a ha => ⟨(q2 a ha).1, (q2 a ha).2.1⟩) (s2.storeAt fun a ha => (q2 a ha).2.2) (chg_set.prot fun j hj hm => by
        have : j = i := by simpa using hm
        subst this; exact hP hj)
    · simp only [hl, if_false] at h
      exact False.elim h
theorem s_set {keep : Bool} {i : Nat} {x : Str} (hP : i ∉ P) (hN : X.N.Nodup) (hi : X.N[i]? = some x) (hx : Loc X.env.scope x) (he : PE X e (tE T W f)) (hs : swapsWith e (some (.Name x pos')) pos.line X.env = pure false) (hf : X.fn x = true ∨ X.env.scope.names.lookup x = some .local) :
    PS X (.Assign [.Name x pos'] e pos) (tS T W P (sSet keep i f)) := by
  refine PS.mono (ps_set hN hi hx he hs hf) fun D σ H ⟨Hz, ρ, F, z, h⟩ => ⟨Hz, ρ, F, z, Aft.imp (AftS.bS (PP := PB T.K F) h) fun v H1 ⟨Hz1, F1, b, ρ1, z1, s1, r1, q1⟩ => ?_⟩
  exact set_aft hP z1 s1 r1 q1
theorem s_asg {tg : Expr} (hP : ∀ i ∈ P, i ∉ L) (he : PE X e (tE T W f)) (hg : PG X tg (tG T L g)) (hs : swapsWithSole [tg] e pos.line X.env = pure false) (hw : swappedStores [tg] e X.env = pure none) (h1 : (assignEach [tg] X.env).map (·.2) = [assign tg X.env]) :
    PS X (.Assign [tg] e pos) (tS T W P (sAsg f g)) := by
  refine PS.mono (ps_asg he hg hs hw h1) fun D σ H ⟨Hz, ρ, F, z, h⟩ => ⟨Hz, ρ, F, z, Aft.imp (AftS.bS (PP := PB T.K F) h) fun v H1 ⟨Hz1, F1, b, ρ1, z1, s1, r1, q1⟩ => ?_⟩
  cases e1 : frz b with
  | none => rw [e1] at q1; cases q1
  | some d =>
    rw [e1] at q1
    obtain ⟨Hz2, z2, s2, r2⟩ := freeze e1 z1 s1 r1
    refine ⟨Hz2, ρ1, F1, d, z2, r2, ?_⟩
    cases e2 : g d ρ1 with
    | none => simp only [e2] at q1; cases q1
    | some ρ2 =>
      simp only [e2] at q1
      exact fun σ' Hz' H' F' z' st c => q1 σ' Hz' H' F' z' (s2.trans st) (c.prot hP)
end

/-! ### loops -/
/-- what an iterator gives: the data ds, one by one; Hz stands still meanwhile -/
def IterOk (K : Fg) (Hz : Hp) (ds : List D) (J : It) : Prop := ∃ (G : Hp → Prop) (Y : Nat → Hp → V → Hp → Prop), Walk J ds.length G Y ∧ (∀ H, Same Hz H → G H) ∧
  ∀ i H x H' Hz2, i < ds.length → Y i H x H' → Same Hz Hz2 → Same Hz2 H → ∃ d, ds[i]? = some d ∧ New K Hz2 H (.fr d) x H'
def PIt (K : Fg) : List D → It → Hp → Hp → Hp → (Nat → List Addr) → Prop := fun ds J _ Hz' _ _ => IterOk K Hz' ds J
def tI (T : Tx) (W : WX) (f : SI) : TI := fun σ H R => ∃ Hz ρ F, Zone T.K Hz H σ ρ F ∧ Aft T W Hz H F σ (PIt T.K) (f ρ) R
section
variable {X : Cx} {T : Tx} {W : WX} {P L : List Nat} {e c : Expr} {st : Stmt} {sts rest : List Stmt} {f : SE} {fs gs : SS} {ct : STs} {g : SG} {it : SI} {pos pos' : Pos}
theorem s_for {tg iter : Expr} {body : List Stmt} (hP : ∀ i ∈ P, i ∉ L) (hp : PassesOwn (model X.prog X.w) X.A X.env X.xe) (hc : X.calm = true) (hi : PI X tg iter (tI T W it)) (hg : PG X tg (tG T L g)) (hb : PSs X body (tS T W P fs)) (hs : ∀ x, foldedSetIterable iter X.env x = pure x) :
    PS X (.For tg iter body [] pos) (tS T W P (sFor it g fs)) := by
  refine PS.mono (ps_for hp hc hi hg hb hs) fun D σ H ⟨Hz, ρ, F, z, h⟩ => ⟨Hz, ρ, F, z, Aft.imp (AftS.bS (PP := PIt T.K) h) fun J H1 ⟨Hz1, F1, ds, ρ1, z1, s1, r1, q1⟩ => ?_⟩
  obtain ⟨G, Y, wk, hG, hY⟩ := r1
  have q2 := AftS.from q1 s1 (.refl _ _)
  refine for_it wk (fun i σ' H' => ∃ Hz' ρ' F', Zone T.K Hz' H' σ' ρ' F' ∧ Same Hz1 Hz' ∧ AftS T W P Hz' H' F' σ' (forR g fs (ds.drop i) ρ') D) ⟨Hz1, ρ1, F1, z1, .refl _, q2⟩
    (fun i σ' H' _ ⟨Hz', ρ', F', z', sm, _⟩ => hG H' (sm.trans z'.sub)) (fun i x σ' H' H'' hi ⟨Hz', ρ', F', z', sm, q⟩ y => ?_) fun σ' H' ⟨Hz', ρ', F', z', sm, q⟩ => ?_
  · obtain ⟨d, hd, n⟩ := hY i H' x H'' Hz' hi y sm z'.sub
    obtain ⟨Hz2, z2, s2, pb⟩ := new_zone z' n
    obtain ⟨fp, m, _⟩ := pb
    have hdr : ds.drop i = d :: ds.drop (i + 1) := by
      rw [List.drop_eq_getElem_cons hi]
      rw [List.getElem?_eq_getElem hi] at hd
      cases hd; rfl
    rw [hdr] at q
    refine ⟨Hz2, ρ', F', d, z2, m.2, ?_⟩
    have q := AftS.from q s2 (.refl _ _)
    unfold forR at q
    cases eg : g d ρ' with
    | none => rw [eg] at q; cases q
    | some ρ2 =>
      rw [eg] at q
      intro σ3 Hz3 H3 F3 z3 s3 c3
      have q := AftS.from q s3 (c3.prot hP)
      refine ⟨Hz3, ρ2, F3, z3, ?_⟩
      have sm3 : Same Hz1 Hz3 := sm.trans (s2.z.trans s3.z)
      cases eb : fs ρ2 with
      | bad => simp only [eb] at q; cases q
      | nx ρ4 => simp only [eb] at q; exact fun σ4 Hz4 H4 F4 z4 s4 p4 => ⟨Hz4, ρ4, F4, z4, sm3.trans s4.z, AftS.from q s4 p4⟩
      | ct ρ4 => simp only [eb] at q; exact fun σ4 Hz4 H4 F4 z4 s4 p4 => ⟨Hz4, ρ4, F4, z4, sm3.trans s4.z, AftS.from q s4 p4⟩
      | bk ρ4 => simp only [eb] at q; exact q
      | rt b ρ4 => simp only [eb] at q; exact q
      | exc x ρ4 => simp only [eb] at q; exact q
  · rw [List.drop_length] at q
    exact q σ' Hz' H' F' z' .refl (.refl _ _)
theorem whl_more {c : STs} {b : SS} : ∀ {n : Nat} {ρ : Env}, whl c b n ρ ≠ .bad → whl c b (n + 1) ρ = whl c b n ρ
  | 0, ρ, h => absurd rfl h
  | n + 1, ρ, h => by
    have h' := h
    unfold whl at h' ⊢
    cases e : c ρ with
    | bad => rfl
    | exc x ρ1 => rfl
    | ok k ρ1 =>
      simp only [e, Rs.bS] at h' ⊢
      cases k with
      | false => rfl
      | true =>
        simp only [if_true] at h' ⊢
        cases eb : b ρ1 with
        | nx ρ2 => simp only [eb] at h' ⊢; exact whl_more h'
        | ct ρ2 => simp only [eb] at h' ⊢; exact whl_more h'
        | _ => rfl
theorem whl_le {c : STs} {b : SS} {n : Nat} {ρ : Env} (h : whl c b n ρ ≠ .bad) : ∀ m, whl c b (n + m) ρ = whl c b n ρ
  | 0 => rfl
  | m + 1 => by
    have ih := whl_le h m
    rw [← Nat.add_assoc, whl_more (by rw [ih]; exact h), ih]
theorem sWhile_eq {c : STs} {b : SS} {n : Nat} {ρ : Env} (h : whl c b n ρ ≠ .bad) : sWhile c b ρ = whl c b n ρ := by
  have hx : ∃ n, whl c b n ρ ≠ .bad := ⟨n, h⟩
  unfold sWhile
  rw [dif_pos hx]
  have hc := Classical.choose_spec hx
  rcases Nat.le_total n (Classical.choose hx) with hle | hle
  · obtain ⟨m, hm⟩ := Nat.exists_eq_add_of_le hle
    rw [hm]; exact whl_le h m
  · obtain ⟨m, hm⟩ := Nat.exists_eq_add_of_le hle
    have := whl_le hc m
    rw [← hm] at this
    exact this.symm
theorem s_while {body : List Stmt} (hp : PassesOwn (model X.prog X.w) X.A X.env X.xe) (hc : PT X c (tT T W ct)) (hb : PSs X body (tS T W P fs)) : PS X (.While c body [] pos) (tS T W P (sWhile ct fs)) := by
  refine PS.mono (ps_while hp hc hb) fun D σ H ⟨Hz, ρ, F, z, h⟩ => ?_
  refine ⟨fun m σ' H' => ∃ Hz' ρ' F', Zone T.K Hz' H' σ' ρ' F' ∧ AftS T W P Hz' H' F' σ' (whl ct fs m ρ') D, ?_, fun m σ' H' ⟨Hz', ρ', F', z', q⟩ => ?_⟩
  · unfold sWhile at h
    by_cases hx : ∃ n, whl ct fs n ρ ≠ .bad
    · rw [dif_pos hx] at h
      exact ⟨_, Hz, ρ, F, z, h⟩
    · rw [dif_neg hx] at h; cases h
  · cases m with
    | zero => cases q
    | succ m =>
      unfold whl at q
      refine ⟨Hz', ρ', F', z', Aft.imp (AftS.bS (PP := PT_) q) fun bb H1 ⟨Hz1, F1, kk, ρ1, z1, s1, r1, q1⟩ => ?_⟩
      cases r1
      cases bb with
      | false => exact iteF (q1 σ' Hz1 H1 F1 z1 s1 (.refl _ _))
      | true =>
        refine iteT ?_
        have q2 : AftS T W P Hz1 H1 F1 σ' _ D := AftS.from q1 s1 (.refl _ _)
        simp only [if_true] at q2
        refine ⟨fun σ4 H4 => ∃ Hz4 ρ4 F4, Zone T.K Hz4 H4 σ4 ρ4 F4 ∧ AftS T W P Hz4 H4 F4 σ4 (whl ct fs m ρ4) D, fun σ4 H4 h4 => ⟨m, Nat.lt_succ_self _, h4⟩, Hz1, ρ1, F1, z1, ?_⟩
        cases eb : fs ρ1 with
        | bad => simp only [eb] at q2; cases q2
        | nx ρ4 => simp only [eb] at q2; exact fun σ4 Hz4 H4 F4 z4 s4 p4 => ⟨Hz4, ρ4, F4, z4, AftS.from q2 s4 p4⟩
        | ct ρ4 => simp only [eb] at q2; exact fun σ4 Hz4 H4 F4 z4 s4 p4 => ⟨Hz4, ρ4, F4, z4, AftS.from q2 s4 p4⟩
        | bk ρ4 => simp only [eb] at q2; exact q2
        | rt b ρ4 => simp only [eb] at q2; exact q2
        | exc x ρ4 => simp only [eb] at q2; exact q2
end
end FK

set_option Elab.async false
set_option linter.all false
set_option maxRecDepth 100000
/-! FK 6: functions and calls. -/
namespace FK
open PySem PySem.Spec PyProof.Rows L2

/-- what a def promises: what its closure computes of the arguments' bindings -/
def spF (T : Tx) (n : Nat) (g : SE) : Sp := fun vs H Q E => vs.length = n ∧ tE T (fun cls d _ H' => E cls d H') g (vs.map some) H Q

/-- the bindings behind a body: of the protected parameters as they are then, the others as they were -/
def outs (prot : List Nat) : Nat → List B → List B → Option (List B)
  | i, b :: bs, r :: rs => if i ∈ prot then (outs prot (i + 1) bs rs).map (r :: ·) else match b with
    | .fr d => (outs prot (i + 1) bs rs).map (.fr d :: ·)
    | _ => none
  | _, [], _ => some []
  | _, _, _ => none
def fin (prot : List Nat) (bs : List B) : RS → RE
  | .rt b ρ' => (match outs prot 0 bs ρ' with
    | some os => .ok b os
    | none => .bad)
  | .nx ρ' => (match outs prot 0 bs ρ' with
    | some os => .ok (.fr .none) os
    | none => .bad)
  | .exc x ρ' => (match outs prot 0 bs ρ' with
    | some os => .exc x os
    | none => .bad)
  | _ => .bad
/-- the closure of a def with np parameters, ns names -/
def runDef (body : SS) (np ns : Nat) (prot : List Nat) : SE := fun bs => if bs.length = np then fin prot bs (body (bs ++ List.replicate (ns - np) .no)) else .bad

theorem outs_get {prot : List Nat} : ∀ {i : Nat} {bs rs os : List B}, outs prot i bs rs = some os → os.length = bs.length ∧ ∀ j b, bs[j]? = some b → (i + j ∈ prot ∧ ∃ r, rs[j]? = some r ∧ os[j]? = some r) ∨ (i + j ∉ prot ∧ ∃ d, b = .fr d ∧ os[j]? = some (.fr d))
  | i, [], rs, os, h => by
    have e : os = [] := by
      cases rs <;> exact (Option.some.inj h).symm
    subst e
    exact ⟨rfl, fun j b hb => by simp at hb⟩
  | i, b :: bs, [], os, h => by cases h
  | i, b :: bs, r :: rs, os, h => by
    unfold outs at h
    by_cases hi : i ∈ prot
    · rw [if_pos hi] at h
      cases e : outs prot (i + 1) bs rs with
      | none => rw [e] at h; cases h
      | some os' =>
        rw [e] at h
        cases h
        obtain ⟨h1, h2⟩ := outs_get e
        refine ⟨by simp [h1], fun j c hc => ?_⟩
        cases j with
        | zero => exact .inl ⟨hi, r, rfl, rfl⟩
        | succ j =>
          have := h2 j c (by simpa using hc)
          rw [show i + (j + 1) = i + 1 + j by omega]
          simpa using this
    · rw [if_neg hi] at h
      cases b with
      | fr d =>
        cases e : outs prot (i + 1) bs rs with
        | none => simp only [e] at h; cases h
        | some os' =>
          simp only [e] at h
          cases h
          obtain ⟨h1, h2⟩ := outs_get e
          refine ⟨by simp [h1], fun j c hc => ?_⟩
          cases j with
          | zero => exact .inr ⟨hi, d, by simpa using hc.symm, rfl⟩
          | succ j =>
            have := h2 j c (by simpa using hc)
            rw [show i + (j + 1) = i + 1 + j by omega]
            simpa using this
      | _ => cases h

section
variable {K : Fg} {Hz H Hz1 H1 : Hp} {F F1 : Nat → List Addr} {bs : List B} {vs : List V} {N : List Str} {σ' : L2.St} {ρ' : Env} {prot : List Nat}
theorem start_get {i : Nat} {v : V} (h : vs[i]? = some v) : (L2.start N vs)[i]? = some (some v) := by
  unfold L2.start
  have hi : i < vs.length := (List.getElem?_eq_some_iff.mp h).1
  rw [List.getElem?_append_left (by simpa using hi), List.getElem?_map, h]; rfl
theorem Zone.enter {ns : Nat} (z : Zone K Hz H (vs.map some) bs F) (hn : N.length = ns) (hl : vs.length ≤ ns) : Zone K Hz H (L2.start N vs) (bs ++ List.replicate (ns - bs.length) .no) F where
  sub := z.sub
  len := by
    have := z.len
    rw [List.length_map] at this
    unfold L2.start
    simp only [List.length_append, List.length_replicate, List.length_map]
    omega
  slot := fun i b h hb => by
    have hl2 := z.len
    rw [List.length_map] at hl2
    by_cases hi : i < bs.length
    · rw [List.getElem?_append_left hi] at h
      obtain ⟨v, h1, m⟩ := z.slot i b h hb
      refine ⟨v, start_get ?_, m⟩
      rw [List.getElem?_map] at h1
      cases e : vs[i]? with
      | none => rw [e] at h1; cases h1
      | some w => rw [e] at h1; cases h1; rfl
    · rw [List.getElem?_append_right (by omega), List.getElem?_replicate] at h
      split at h
      · cases h; exact absurd rfl hb
      · cases h
  out := z.out
  apart := z.apart
  dead := fun i h => by
    refine z.dead i ?_
    by_cases hi : i < bs.length
    · rw [List.getElem?_append_left hi] at h; exact h
    · exact .inl (by rw [List.getElem?_eq_none]; omega)
/-- the callee's zone at its end, seen from the caller -/
theorem Zone.leave {os : List B} (z0 : Zone K Hz H (vs.map some) bs F) (z : Zone K Hz1 H1 σ' ρ' F1) (s : Step Hz H F Hz1 H1 F1) (p : Prot prot (L2.start N vs) σ') (h : outs prot 0 bs ρ' = some os) :
    Zone K Hz1 H1 (vs.map some) os (fun i => if i ∈ prot ∧ i < bs.length then F1 i else []) := by
  obtain ⟨h1, h2⟩ := outs_get h
  have hl := z0.len
  rw [List.length_map] at hl
  refine ⟨z.sub, by rw [h1, List.length_map]; exact hl, fun i b hb hn => ?_, fun i a ha => ?_, fun i j a ha hb => ?_, fun i hd => ?_⟩
  · have hi : i < bs.length := by rw [← h1]; exact (List.getElem?_eq_some_iff.mp hb).1
    have hb0 : bs[i]? = some bs[i] := List.getElem?_eq_getElem hi
    have hv : vs[i]? = some vs[i] := List.getElem?_eq_getElem (by omega)
    have hm : (vs.map some)[i]? = some (some vs[i]) := by rw [List.getElem?_map, hv]; rfl
    rcases h2 i _ hb0 with ⟨hp, r, e1, e2⟩ | ⟨hp, d, e1, e2⟩
    · rw [Nat.zero_add] at hp
      rw [e2] at hb; cases hb
      obtain ⟨v, q1, q2⟩ := z.slot i _ e1 hn
      rw [p.2 i hp, start_get hv] at q1
      cases q1
      exact ⟨_, hm, by rw [if_pos ⟨hp, hi⟩]; exact q2⟩
    · rw [Nat.zero_add] at hp
      rw [e2] at hb; cases hb
      rw [e1] at hb0
      obtain ⟨v, q1, q2⟩ := z0.slot i _ hb0 (fun w => nomatch w)
      rw [hm] at q1; cases q1
      exact ⟨_, hm, by rw [if_neg (fun w => hp w.1)]; exact ⟨rfl, q2.2.mono s.z⟩⟩
  · split at ha
    · exact z.out i a ha
    · cases ha
  · split at ha
    · split at hb
      · exact z.apart i j a ha hb
      · cases hb
    · cases ha
  · split
    · rename_i hp
      have hb0 : bs[i]? = some bs[i] := List.getElem?_eq_getElem hp.2
      rcases h2 i _ hb0 with ⟨_, r, e1, e2⟩ | ⟨hq, _⟩
      · refine z.dead i ?_
        rcases hd with hd | hd
        · rw [e2] at hd; cases hd
        · rw [e2] at hd; cases hd; exact .inr e1
      · rw [Nat.zero_add] at hq; exact absurd hp.1 hq
    · rfl
theorem own_leave {a : Addr} (h : Own (fun i => if i ∈ prot ∧ i < bs.length then F1 i else []) a) : Own F1 a := by
  obtain ⟨i, hi⟩ := h
  dsimp only at hi
  split at hi
  · exact ⟨i, hi⟩
  · cases hi
theorem Step.leave (s : Step Hz H F Hz1 H1 F1) : Step Hz H F Hz1 H1 (fun i => if i ∈ prot ∧ i < bs.length then F1 i else []) :=
  ⟨s.z, s.fr, s.nz, fun a h => s.no a (own_leave h), s.dom⟩
end

/-- THE RULE: a def keeps the promise of its closure -/
theorem fn_ok {P : Program} {w : World} {T : Tx} {mg : Str → Option Value} {base : Heap} {CX : CXT} {k : Nat} {f : Addr} {fd : FuncData} {x qual : Str} {params : Arguments} {body : List Stmt} {scope : Scope} {dvs : List V} {kws : List (Str × V)} {N ps : List Str} {prot : List Nat} {sem : SS}
    (Fd : FunD T.K x qual params body scope dvs kws f fd) (S : FnScope N ps scope) (hle : ps.length ≤ N.length)
    (hbody : ∀ (cdv : Value) (A : Around) (outer : List PySem.Env) (s : Shared) (H : Hp) (E : XK), Room k (A.deeper (envOfC qual scope s.heap.objs.size f cdv)) →
      PSs (cxOf CX P w T.K mg base N qual scope f cdv A outer s H E) body (tS T (fun cls d _ H' => E cls d H') prot sem)) :
    FnOk P w T.K mg base CX (k + 1) f fd ps (spF T ps.length (runDef sem ps.length N.length prot)) := by
  refine FunD.ok Fd S (fun vs H Q E h => h.1) fun cdv A outer s H vs Q E hr h => ?_
  obtain ⟨hl, Hz, bs, F, z, h⟩ := h
  refine ⟨_, hbody cdv A outer s H E hr, ?_⟩
  have hl2 := z.len
  rw [List.length_map] at hl2
  unfold runDef at h
  rw [if_pos (by omega)] at h
  have z0 := z.enter (N := N) (ns := N.length) rfl (by omega)
  rw [show N.length - bs.length = N.length - ps.length by omega] at z0
  refine ⟨Hz, _, F, z0, ?_⟩
  generalize sem (bs ++ List.replicate (N.length - ps.length) .no) = r at h
  cases r with
  | bad => exact h
  | bk _ => exact h.elim
  | ct _ => exact h.elim
  | nx ρ' =>
    intro σ' Hz' H' F' z' st pr
    have h : Aft T _ Hz H F (vs.map some) (PB T.K F) (match outs prot 0 bs ρ' with
      | some os => .ok (.fr .none) os
      | none => .bad) Q := h
    cases e : outs prot 0 bs ρ' with
    | none => rw [e] at h; cases h
    | some os =>
      rw [e] at h
      exact h .non Hz' H' _ (z.leave z' st pr e) st.leave ⟨[], ⟨rfl, .non⟩, fun a ha => nomatch ha⟩
  | rt b ρ' =>
    intro v σ' Hz' H' F' z' st pr pb
    have h : Aft T _ Hz H F (vs.map some) (PB T.K F) (match outs prot 0 bs ρ' with
      | some os => .ok b os
      | none => .bad) Q := h
    cases e : outs prot 0 bs ρ' with
    | none => rw [e] at h; cases h
    | some os =>
      rw [e] at h
      obtain ⟨fp, m, q⟩ := pb
      exact h v Hz' H' _ (z.leave z' st pr e) st.leave ⟨fp, m, fun a ha => ⟨(q a ha).1, fun w => (q a ha).2.1 (own_leave w), (q a ha).2.2⟩⟩
  | exc x ρ' =>
    intro cls d σ' Hz' H' F' z' st pr xr
    have h : Aft T _ Hz H F (vs.map some) (PB T.K F) (match outs prot 0 bs ρ' with
      | some os => .exc x os
      | none => .bad) Q := h
    cases e : outs prot 0 bs ρ' with
    | none => rw [e] at h; cases h
    | some os =>
      rw [e] at h
      exact h cls d Hz' H' _ (z.leave z' st pr e) st.leave xr

/-! ### calls -/
/-- an argument: a datum; or a name's own object, handed to be changed -/
inductive AV where
  | val (d : D)
  | io (i : Nat)
abbrev SAv := Env → Rs (List AV)
def vNil : SAv := fun ρ => .ok [] ρ
def vVal (f : SE) (r : SAv) : SAv := fun ρ => (f ρ).frd fun d ρ1 => (r ρ1).bnd fun l ρ2 => .ok (.val d :: l) ρ2
def vIo (i : Nat) (r : SAv) : SAv := fun ρ => match ρ[i]? with
  | some (.fr d) => (r ρ).bnd fun l ρ2 => .ok (.val d :: l) ρ2
  | some (.ow _) => (r ρ).bnd fun l ρ2 => .ok (.io i :: l) ρ2
  | _ => .bad
inductive RepA (K : Fg) (Hz : Hp) (σ : L2.St) : List V → List AV → Prop
  | nil : RepA K Hz σ [] []
  | val {v : V} {vs : List V} {d : D} {l : List AV} : Rep K Hz v d → RepA K Hz σ vs l → RepA K Hz σ (v :: vs) (.val d :: l)
  | io {v : V} {vs : List V} {i : Nat} {l : List AV} : σ[i]? = some (some v) → RepA K Hz σ vs l → RepA K Hz σ (v :: vs) (.io i :: l)
theorem RepA.mono {K : Fg} {Hz Hz' : Hp} {σ : L2.St} (s : Same Hz Hz') : ∀ {vs : List V} {l : List AV}, RepA K Hz σ vs l → RepA K Hz' σ vs l
  | _, _, .nil => .nil
  | _, _, .val r t => .val (r.mono s) (t.mono s)
  | _, _, .io r t => .io r (t.mono s)
def PAv (K : Fg) (σ : L2.St) : List AV → List V → Hp → Hp → Hp → (Nat → List Addr) → Prop := fun l vs _ Hz' _ _ => RepA K Hz' σ vs l
def tAv (T : Tx) (W : WX) (f : SAv) : TA := fun σ H Q => ∃ Hz ρ F, Zone T.K Hz H σ ρ F ∧ Aft T W Hz H F σ (PAv T.K σ) (f ρ) Q
def ios : List AV → List Nat
  | [] => []
  | .val _ :: l => ios l
  | .io i :: l => i :: ios l
def mkArgs (ρ : Env) : List AV → Option (List B)
  | [] => some []
  | .val d :: l => (mkArgs ρ l).map (.fr d :: ·)
  | .io i :: l => match ρ[i]? with
    | some (.ow d) => (mkArgs ρ l).map (.ow d :: ·)
    | _ => none
def backs : List AV → List B → Env → Env
  | .io i :: l, b :: bs, ρ => backs l bs (ρ.set i b)
  | .val _ :: l, _ :: bs, ρ => backs l bs ρ
  | _, _, ρ => ρ
def nodupB : List Nat → Bool
  | [] => true
  | i :: l => !(l.contains i) && nodupB l
def sCall (ft : SE) (fa : SAv) : SE := fun ρ => (fa ρ).bnd fun l ρ1 => if nodupB (ios l) = true then (match mkArgs ρ1 l with
    | some bs => (match ft bs with
      | .ok b os => .ok b (backs l os ρ1)
      | .exc x os => .exc x (backs l os ρ1)
      | .bad => .bad)
    | none => .bad) else .bad
/-- where slot i is handed -/
def ioAt (i : Nat) : List AV → Option Nat
  | [] => none
  | .io j :: l => if j = i then some 0 else (ioAt i l).map (· + 1)
  | .val _ :: l => (ioAt i l).map (· + 1)
theorem ioAt_get {i : Nat} : ∀ {l : List AV} {j : Nat}, ioAt i l = some j → l[j]? = some (.io i)
  | [], _, h => by cases h
  | .io k :: l, j, h => by
    unfold ioAt at h
    by_cases e : k = i
    · rw [if_pos e] at h; cases h; subst e; rfl
    · rw [if_neg e] at h
      cases e2 : ioAt i l with
      | none => rw [e2] at h; cases h
      | some m => rw [e2] at h; cases h; simpa using ioAt_get e2
  | .val d :: l, j, h => by
    unfold ioAt at h
    cases e2 : ioAt i l with
    | none => rw [e2] at h; cases h
    | some m => rw [e2] at h; cases h; simpa using ioAt_get e2
theorem ioAt_none {i : Nat} : ∀ {l : List AV}, ioAt i l = none → i ∉ ios l
  | [], _ => by simp [ios]
  | .io k :: l, h => by
    unfold ioAt at h
    by_cases e : k = i
    · rw [if_pos e] at h; cases h
    · rw [if_neg e] at h
      cases e2 : ioAt i l with
      | some m => rw [e2] at h; cases h
      | none => simp only [ios, List.mem_cons, not_or]; exact ⟨Ne.symm e, ioAt_none e2⟩
  | .val d :: l, h => by
    unfold ioAt at h
    cases e2 : ioAt i l with
    | some m => rw [e2] at h; cases h
    | none => exact (ioAt_none e2 : i ∉ ios l)
theorem ios_mem {i : Nat} : ∀ {l : List AV} {j : Nat}, l[j]? = some (.io i) → i ∈ ios l
  | [], j, h => by simp at h
  | .io k :: l, 0, h => by
    have e : k = i := by simpa using h
    subst e; exact List.mem_cons_self
  | .io k :: l, j + 1, h => List.mem_cons_of_mem _ (ios_mem (l := l) (j := j) (by simpa using h))
  | .val d :: l, 0, h => by simp at h
  | .val d :: l, j + 1, h => ios_mem (l := l) (j := j) (by simpa using h)
theorem ioAt_of {i : Nat} : ∀ {l : List AV}, nodupB (ios l) = true → ∀ {j : Nat}, l[j]? = some (.io i) → ioAt i l = some j
  | [], _, j, h => by simp at h
  | .io k :: l, hn, j, h => by
    simp only [ios, nodupB, Bool.and_eq_true, Bool.not_eq_true'] at hn
    cases j with
    | zero =>
      have e : k = i := by simpa using h
      unfold ioAt; rw [if_pos e]
    | succ j =>
      have h' : l[j]? = some (.io i) := by simpa using h
      have ih := ioAt_of hn.2 h'
      unfold ioAt
      by_cases e : k = i
      · subst e
        have hc := hn.1
        rw [List.contains_iff_mem.mpr (ios_mem h')] at hc
        cases hc
      · rw [if_neg e, ih]; rfl
  | .val d :: l, hn, j, h => by
    cases j with
    | zero => simp at h
    | succ j =>
      have ih := ioAt_of (l := l) hn (j := j) (by simpa using h)
      unfold ioAt; rw [ih]; rfl
end FK

set_option Elab.async false
set_option linter.all false
set_option maxRecDepth 100000
/-! FK 7: calls, soundness. -/
namespace FK
open PySem PySem.Spec PyProof.Rows L2
theorem mkArgs_get {ρ : Env} : ∀ {l : List AV} {bs : List B}, mkArgs ρ l = some bs → bs.length = l.length ∧ ∀ (j : Nat) (a : AV), l[j]? = some a → (∃ d, a = AV.val d ∧ bs[j]? = some (B.fr d)) ∨ ∃ i d, a = AV.io i ∧ ρ[i]? = some (B.ow d) ∧ bs[j]? = some (B.ow d)
  | [], bs, h => by cases h; exact ⟨rfl, fun j a e => by simp at e⟩
  | .val d :: l, bs, h => by
    unfold mkArgs at h
    cases e : mkArgs ρ l with
    | none => rw [e] at h; cases h
    | some cs =>
      rw [e] at h; cases h
      obtain ⟨h1, h2⟩ := mkArgs_get e
      refine ⟨by simp [h1], fun j a ha => ?_⟩
      cases j with
      | zero => exact .inl ⟨d, by simpa using ha.symm, rfl⟩
      | succ j => simpa using h2 j a (by simpa using ha)
  | .io i :: l, bs, h => by
    unfold mkArgs at h
    cases q : ρ[i]? with
    | none => rw [q] at h; cases h
    | some b =>
      rw [q] at h
      cases b with
      | ow d =>
        cases e : mkArgs ρ l with
        | none => simp only [e] at h; cases h
        | some cs =>
          simp only [e] at h; cases h
          obtain ⟨h1, h2⟩ := mkArgs_get e
          refine ⟨by simp [h1], fun j a ha => ?_⟩
          cases j with
          | zero => exact .inr ⟨i, d, by simpa using ha.symm, q, rfl⟩
          | succ j => simpa using h2 j a (by simpa using ha)
      | _ => cases h
theorem backs_length : ∀ (l : List AV) (os : List B) (ρ : Env), (backs l os ρ).length = ρ.length
  | [], _, _ => by unfold backs; rfl
  | .io i :: l, [], _ => by unfold backs; rfl
  | .val d :: l, [], _ => by unfold backs; rfl
  | .io i :: l, b :: os, ρ => by unfold backs; rw [backs_length l os, List.length_set]
  | .val d :: l, b :: os, ρ => by unfold backs; exact backs_length l os ρ
theorem backs_out {i : Nat} : ∀ {l : List AV} {os : List B} {ρ : Env}, i ∉ ios l → (backs l os ρ)[i]? = ρ[i]?
  | [], _, _, _ => by unfold backs; rfl
  | .io j :: l, [], _, _ => by unfold backs; rfl
  | .val d :: l, [], _, _ => by unfold backs; rfl
  | .io j :: l, b :: os, ρ, h => by
    simp only [ios, List.mem_cons, not_or] at h
    unfold backs
    rw [backs_out h.2, List.getElem?_set_ne (Ne.symm h.1)]
  | .val d :: l, b :: os, ρ, h => by unfold backs; exact backs_out (l := l) h
theorem backs_at {i : Nat} : ∀ {l : List AV} {os : List B} {ρ : Env} {j : Nat}, nodupB (ios l) = true → os.length = l.length → i < ρ.length → l[j]? = some (.io i) → (backs l os ρ)[i]? = os[j]?
  | [], _, _, j, _, _, _, h => by simp at h
  | .io k :: l, [], _, j, _, hl, _, _ => by simp at hl
  | .val d :: l, [], _, j, _, hl, _, _ => by simp at hl
  | .io k :: l, b :: os, ρ, j, hn, hl, hi, h => by
    simp only [ios, nodupB, Bool.and_eq_true, Bool.not_eq_true'] at hn
    unfold backs
    cases j with
    | zero =>
      have e : k = i := by simpa using h
      subst e
      have : k ∉ ios l := fun hm => by
        have hc := hn.1
        rw [List.contains_iff_mem.mpr hm] at hc
        cases hc
      rw [backs_out this, List.getElem?_set_self hi]; rfl
    | succ j => exact backs_at hn.2 (by simpa using hl) (by rw [List.length_set]; exact hi) (by simpa using h)
  | .val d :: l, b :: os, ρ, j, hn, hl, hi, h => by
    unfold backs
    cases j with
    | zero => simp at h
    | succ j => exact backs_at (l := l) hn (by simpa using hl) hi (by simpa using h)
theorem RepA.length {K : Fg} {Hz : Hp} {σ : L2.St} : ∀ {vs : List V} {l : List AV}, RepA K Hz σ vs l → vs.length = l.length
  | _, _, .nil => rfl
  | _, _, .val _ t => congrArg (· + 1) t.length
  | _, _, .io _ t => congrArg (· + 1) t.length
theorem RepA.get {K : Fg} {Hz : Hp} {σ : L2.St} : ∀ {vs : List V} {l : List AV} {j : Nat} {a : AV}, RepA K Hz σ vs l → l[j]? = some a → ∃ v, vs[j]? = some v ∧ ((∃ d, a = .val d ∧ Rep K Hz v d) ∨ ∃ i, a = .io i ∧ σ[i]? = some (some v))
  | _, _, j, a, .nil, h => by simp at h
  | _, _, 0, a, .val r t, h => by simp at h; subst h; exact ⟨_, rfl, .inl ⟨_, rfl, r⟩⟩
  | _, _, 0, a, .io r t, h => by simp at h; subst h; exact ⟨_, rfl, .inr ⟨_, rfl, r⟩⟩
  | _, _, j + 1, a, .val r t, h => by simpa using RepA.get t (j := j) (a := a) (by simpa using h)
  | _, _, j + 1, a, .io r t, h => by simpa using RepA.get t (j := j) (a := a) (by simpa using h)

/-- what the callee owns of the caller's -/
def calF (l : List AV) (F : Nat → List Addr) : Nat → List Addr := fun j => match l[j]? with
  | some (.io i) => F i
  | _ => []
theorem calF_own {l : List AV} {F : Nat → List Addr} {a : Addr} (h : Own (calF l F) a) : ∃ (i j : Nat), l[j]? = some (AV.io i) ∧ a ∈ F i := by
  obtain ⟨j, hj⟩ := h
  unfold calF at hj
  split at hj
  · rename_i i e; exact ⟨i, j, e, hj⟩
  · cases hj
def retF (l : List AV) (F F' : Nat → List Addr) : Nat → List Addr := fun i => match ioAt i l with
  | some j => F' j
  | none => F i
section
variable {K : Fg} {Hz H Hz1 H1 : Hp} {F F1 : Nat → List Addr} {σ : L2.St} {ρ : Env} {l : List AV} {bs os : List B} {vs : List V}
theorem Zone.call (z : Zone K Hz H σ ρ F) (r : RepA K Hz σ vs l) (hn : nodupB (ios l) = true) (hb : mkArgs ρ l = some bs) : Zone K Hz H (vs.map some) bs (calF l F) := by
  obtain ⟨h1, h2⟩ := mkArgs_get hb
  have hl := r.length
  refine ⟨z.sub, by rw [List.length_map, h1, hl], fun j b hj hno => ?_, fun j a ha => ?_, fun j k a ha hb => ?_, fun j hd => ?_⟩
  · have hj2 : j < l.length := by rw [← h1]; exact (List.getElem?_eq_some_iff.mp hj).1
    have ea : l[j]? = some l[j] := List.getElem?_eq_getElem hj2
    obtain ⟨v, hv, q⟩ := r.get ea
    have hm : (vs.map some)[j]? = some (some v) := by rw [List.getElem?_map, hv]; rfl
    rcases h2 j _ ea with ⟨d, e1, e2⟩ | ⟨i, d, e1, e2, e3⟩
    · rw [e2] at hj; cases hj
      rcases q with ⟨d', e4, q⟩ | ⟨i, e4, _⟩
      · rw [e1] at e4; cases e4
        refine ⟨v, hm, ?_, q⟩
        unfold calF; rw [ea, e1]
      · rw [e1] at e4; cases e4
    · rw [e3] at hj; cases hj
      rcases q with ⟨d', e4, q⟩ | ⟨i', e4, q⟩
      · rw [e1] at e4; cases e4
      · rw [e1] at e4; cases e4
        obtain ⟨v', q1, q2⟩ := z.slot i _ e2 (fun w => nomatch w)
        rw [q] at q1; cases q1
        refine ⟨v, hm, ?_⟩
        have : calF l F j = F i := by unfold calF; rw [ea, e1]
        rw [this]; exact q2
  · obtain ⟨i, j', _, h⟩ := calF_own ⟨j, ha⟩
    exact z.out i a h
  · unfold calF at ha hb
    split at ha
    · rename_i i ei
      split at hb
      · rename_i i' ei'
        have e := z.apart i i' a ha hb
        subst e
        have e1 := ioAt_of hn ei
        have e2 := ioAt_of hn ei'
        rw [e1] at e2; cases e2; rfl
      · cases hb
    · cases ha
  · unfold calF
    split
    · rename_i i ei
      rcases h2 j _ ei with ⟨d, e1, e2⟩ | ⟨i, d, e1, e2, e3⟩
      · cases e1
      · rcases hd with hd | hd
        · rw [e3] at hd; cases hd
        · rw [e3] at hd; cases hd
    · rfl
theorem retF_own {a : Addr} {F' : Nat → List Addr} (h : Own (retF l F F') a) : Own F' a ∨ ∃ i, ioAt i l = none ∧ a ∈ F i := by
  obtain ⟨i, hi⟩ := h
  unfold retF at hi
  split at hi
  · rename_i j e; exact .inl ⟨j, hi⟩
  · rename_i e; exact .inr ⟨i, e, hi⟩
/-- an owned address of a name that isn't handed is none of the callee's -/
theorem not_cal (z : Zone K Hz H σ ρ F) {i : Nat} {a : Addr} (e : ioAt i l = none) (ha : a ∈ F i) : ¬ Own (calF l F) a := fun w => by
  obtain ⟨i', j, ej, h⟩ := calF_own w
  have := z.apart i i' a ha h
  subst this
  exact ioAt_none e (ios_mem ej)
theorem Zone.back (z : Zone K Hz H σ ρ F) (r : RepA K Hz σ vs l) (hn : nodupB (ios l) = true) (hb : mkArgs ρ l = some bs) (z1 : Zone K Hz1 H1 (vs.map some) os F1) (s : Step Hz H (calF l F) Hz1 H1 F1) : Zone K Hz1 H1 σ (backs l os ρ) (retF l F F1) := by
  obtain ⟨h1, h2⟩ := mkArgs_get hb
  have hl := r.length
  have hos : os.length = l.length := by have := z1.len; rw [List.length_map] at this; omega
  have keepAt : ∀ i a, ioAt i l = none → a ∈ F i → H1 a = H a ∧ Hz1 a = none := fun i a e ha => by
    have nc := not_cal z e ha
    have hne := z.there ⟨i, ha⟩
    obtain ⟨o, ho⟩ := ex_of_ne hne
    refine ⟨by rw [s.fr a o ho nc, ho], ?_⟩
    cases q : Hz1 a with
    | none => rfl
    | some o' =>
      rcases s.nz a (by rw [q]; exact fun w => nomatch w) with w | w | w
      · exact absurd (z.out i a ha) w
      · exact absurd w hne
      · exact absurd w nc
  have slotIo : ∀ i j, ioAt i l = some j → ∃ d, ρ[i]? = some (.ow d) ∧ ∃ v, σ[i]? = some (some v) ∧ (vs.map some)[j]? = some (some v) := fun i j e => by
    have ej := ioAt_get e
    rcases h2 j _ ej with ⟨d, e1, _⟩ | ⟨i', d, e1, e2, _⟩
    · cases e1
    · cases e1
      obtain ⟨v, hv, q⟩ := r.get ej
      rcases q with ⟨d', e4, _⟩ | ⟨i', e4, q⟩
      · cases e4
      · cases e4
        exact ⟨d, e2, v, q, by rw [List.getElem?_map, hv]; rfl⟩
  have backAt : ∀ i j, ioAt i l = some j → (backs l os ρ)[i]? = os[j]? := fun i j e => by
    obtain ⟨d, e1, _⟩ := slotIo i j e
    exact backs_at hn hos (List.getElem?_eq_some_iff.mp e1).1 (ioAt_get e)
  refine ⟨z1.sub, by rw [backs_length]; exact z.len, fun i b hi hno => ?_, fun i a ha => ?_, fun i k a ha hk => ?_, fun i hd => ?_⟩
  · unfold retF
    cases e : ioAt i l with
    | some j =>
      rw [backAt i j e] at hi
      obtain ⟨v, q1, q2⟩ := z1.slot j b hi hno
      obtain ⟨d, _, v', e2, e3⟩ := slotIo i j e
      rw [e3] at q1; cases q1
      exact ⟨v, e2, q2⟩
    | none =>
      rw [backs_out (ioAt_none e)] at hi
      obtain ⟨v, q1, q2⟩ := z.slot i b hi hno
      exact ⟨v, q1, q2.keep s.z fun a ha => (keepAt i a e ha).1⟩
  · unfold retF at ha
    cases e : ioAt i l with
    | some j => rw [e] at ha; exact z1.out j a ha
    | none => rw [e] at ha; exact (keepAt i a e ha).2
  · have cross : ∀ i j, ioAt i l = none → a ∈ F i → a ∈ F1 j → False := fun i j e h1 h2 => by
      rcases s.no a ⟨j, h2⟩ with w | w
      · exact z.there ⟨i, h1⟩ w
      · exact not_cal z e h1 w
    unfold retF at ha hk
    cases e : ioAt i l with
    | some j =>
      rw [e] at ha
      cases e2 : ioAt k l with
      | some j2 =>
        rw [e2] at hk
        have := z1.apart j j2 a ha hk
        subst this
        have q1 := ioAt_get e
        have q2 := ioAt_get e2
        rw [q1] at q2; cases q2; rfl
      | none => rw [e2] at hk; exact (cross k j e2 hk ha).elim
    | none =>
      rw [e] at ha
      cases e2 : ioAt k l with
      | some j2 => rw [e2] at hk; exact (cross i j2 e ha hk).elim
      | none => rw [e2] at hk; exact z.apart i k a ha hk
  · unfold retF
    cases e : ioAt i l with
    | some j => rw [backAt i j e] at hd; exact z1.dead j hd
    | none => rw [backs_out (ioAt_none e)] at hd; exact z.dead i hd
theorem Step.back (z : Zone K Hz H σ ρ F) (s : Step Hz H (calF l F) Hz1 H1 F1) : Step Hz H F Hz1 H1 (retF l F F1) where
  z := s.z
  fr := fun a o h n => s.fr a o h fun w => by
    obtain ⟨i, j, _, h⟩ := calF_own w
    exact n ⟨i, h⟩
  nz := fun a h => (s.nz a h).imp id fun w => w.imp id fun w => by
    obtain ⟨i, j, _, h⟩ := calF_own w
    exact ⟨i, h⟩
  no := fun a h => by
    rcases retF_own h with w | ⟨i, _, w⟩
    · exact (s.no a w).imp id fun w => by
        obtain ⟨i, j, _, h⟩ := calF_own w
        exact ⟨i, h⟩
    · exact .inr ⟨i, w⟩
  dom := s.dom
theorem PB.back (z : Zone K Hz H σ ρ F) {b : B} {v : V} (p : PB K (calF l F) b v H Hz1 H1 F1) : PB K F b v H Hz1 H1 (retF l F F1) := by
  obtain ⟨fp, m, q⟩ := p
  refine ⟨fp, m, fun a ha => ⟨(q a ha).1, fun w => ?_, (q a ha).2.2.imp id fun w => ?_⟩⟩
  · rcases retF_own w with w | ⟨i, e, w⟩
    · exact (q a ha).2.1 w
    · rcases (q a ha).2.2 with h | h
      · exact z.there ⟨i, w⟩ h
      · exact not_cal z e w h
  · obtain ⟨i, j, _, h⟩ := calF_own w
    exact ⟨i, h⟩
end

section
variable {X : Cx} {T : Tx} {W : WX} {e : Expr} {es : List Expr} {f : SE} {fv : SAv} {pos p : Pos}
theorem v_nil : PA X [] (tAv T W vNil) := PA.mono pa_nil fun σ H Q ⟨Hz, ρ, F, z, h⟩ => h [] Hz H F z .refl .nil
theorem v_val (ha : PE X e (tE T W f)) (hr : PA X es (tAv T W fv)) (hs : starEach (e :: es) X.env = (false, eval e X.env) :: starEach es X.env) : PA X (e :: es) (tAv T W (vVal f fv)) := by
  refine PA.mono (pa_cons ha hr hs) fun σ H Q ⟨Hz, ρ, F, z, h⟩ => ?_
  refine ⟨Hz, ρ, F, z, Aft.imp (Aft.frd h) fun v H1 ⟨Hz1, F1, d, ρ1, z1, s1, r1, q1⟩ => ?_⟩
  have q1' : Aft T W Hz1 H1 F1 σ (PAv T.K σ) _ Q := q1.from s1 fun _ _ _ _ _ p => p
  refine ⟨Hz1, ρ1, F1, z1, Aft.imp (Aft.bnd (P := PAv T.K σ) q1') fun vs H2 ⟨Hz2, F2, l, ρ2, z2, s2, r2, q2⟩ => ?_⟩
  have q2' : Aft T W Hz2 H2 F2 σ (PAv T.K σ) _ Q := q2.from s2 fun _ _ _ _ _ p => p
  exact q2' (v :: vs) Hz2 H2 F2 z2 .refl (.val (r1.mono s2.z) r2)
theorem v_io {i : Nat} {x : Str} (hN : X.N[i]? = some x) (hv : Vis X.env.scope x) (hd : (x == ("__debug__" : Str)) = false) (hcd : (x == ("__classdict__" : Str)) = false) (hr : PA X es (tAv T W fv))
    (hs : starEach (.Name x pos :: es) X.env = (false, eval (.Name x pos) X.env) :: starEach es X.env) : PA X (.Name x pos :: es) (tAv T W (vIo i fv)) := by
  refine PA.mono (pa_cons (pe_var hN hv hd hcd) hr hs) fun σ H Q ⟨Hz, ρ, F, z, h⟩ => ?_
  unfold vIo at h
  cases q : ρ[i]? with
  | none => rw [q] at h; cases h
  | some b =>
    rw [q] at h
    cases b with
    | fr d =>
      obtain ⟨v, h1, m⟩ := z.slot i _ q (fun w => nomatch w)
      refine ⟨v, h1, Hz, ρ, F, z, Aft.imp (Aft.bnd (P := PAv T.K σ) h) fun vs H2 ⟨Hz2, F2, l, ρ2, z2, s2, r2, q2⟩ => ?_⟩
      have q2' : Aft T W Hz2 H2 F2 σ (PAv T.K σ) _ Q := q2.from s2 fun _ _ _ _ _ p => p
      exact q2' (v :: vs) Hz2 H2 F2 z2 .refl (.val (m.2.mono s2.z) r2)
    | ow d =>
      obtain ⟨v, h1, m⟩ := z.slot i _ q (fun w => nomatch w)
      refine ⟨v, h1, Hz, ρ, F, z, Aft.imp (Aft.bnd (P := PAv T.K σ) h) fun vs H2 ⟨Hz2, F2, l, ρ2, z2, s2, r2, q2⟩ => ?_⟩
      have q2' : Aft T W Hz2 H2 F2 σ (PAv T.K σ) _ Q := q2.from s2 fun _ _ _ _ _ p => p
      exact q2' (v :: vs) Hz2 H2 F2 z2 .refl (.io h1 r2)
    | _ => cases h
theorem e_call {k n : Nat} {fa : Addr} {fd : FuncData} {ps : List Str} {x : Str} {ft : SE} (hK : X.K = T.K) (F : FnOk X.prog X.w X.K X.mg X.base (L2.CX X.prog X.w) k fa fd ps (spF T n ft)) (hr : Room k X.A) (hg : Gl X x) (hm : X.mg x = some (.ref fa)) (hk : PySem.W.keepIn X.K (.ref fa) = true)
    (hb : Binds X.K fd ps []) (tk : Takes X W) (ha : PA X (e :: es) (tAv T W fv)) (hft : ∀ bs, ft bs ≠ .bad → bs.length = n) (hdb : (x == ("__debug__" : Str)) = false) (he : starEach (e :: es) X.env = (false, eval e X.env) :: starEach es X.env) (hpl : (backTo pos (starEach es X.env)).any (·.1) = false) :
    PE X (.Call (.Name x p) (e :: es) [] pos) (tE T W (sCall ft fv)) := by
  refine PE.mono (pe_callS (E := WE W) F hr hg hm hk hb (fun σ => passAt tk σ) ha hdb he hpl) fun σ H Q ⟨Hz, ρ, F0, z, h⟩ => ?_
  refine ⟨Hz, ρ, F0, z, Aft.imp (Aft.bnd (P := PAv T.K σ) h) fun vs H1 ⟨Hz1, F1, l, ρ1, z1, s1, r1, q1⟩ => ?_⟩
  have q2 := q1.fromB s1
  by_cases hnd : nodupB (ios l) = true
  · rw [if_pos hnd] at q2
    cases hb2 : mkArgs ρ1 l with
    | none => rw [hb2] at q2; cases q2
    | some bs =>
      rw [hb2] at q2
      have zc := z1.call r1 hnd hb2
      have hlen : vs.length = n := by
        have e1 := zc.len
        rw [List.length_map] at e1
        have e2 := (mkArgs_get hb2).1
        have e3 := r1.length
        have e4 := hft bs fun w => by simp only [w] at q2; cases q2
        omega
      refine ⟨hlen, Hz1, bs, _, zc, ?_⟩
      cases hf : ft bs with
      | bad => simp only [hf] at q2; cases q2
      | ok b os =>
        simp only [hf] at q2
        exact fun v Hz' H' F' z' st pb => q2 v Hz' H' _ (z1.back r1 hnd hb2 z' st) (st.back z1) (PB.back z1 pb)
      | exc x os =>
        simp only [hf] at q2
        exact fun cls d Hz' H' F' z' st xr => q2 cls d Hz' H' _ (z1.back r1 hnd hb2 z' st) (st.back z1) xr
  · rw [if_neg hnd] at q2; cases q2
end
end FK

set_option Elab.async false
set_option linter.all false
set_option maxRecDepth 100000
/-! FK 8: lists changed, lent names, list comprehensions. -/
namespace FK
open PySem PySem.Spec PyProof.Rows L2

/-! ### an owned object is changed -/
section
variable {K : Fg} {Hz H : Hp} {F : Nat → List Addr} {σ : L2.St} {ρ : Env}
theorem set_ge {α : Type} {l : List α} {i j : Nat} {x : α} (h : j ≠ i) : (l.set i x)[j]? = l[j]? := List.getElem?_set_ne (Ne.symm h)
theorem Zone.write {i : Nat} {a : Addr} {d d' : D} {o : HO} (z : Zone K Hz H σ ρ F) (hi : ρ[i]? = some (.ow d)) (hv : σ[i]? = some (some (.ref a))) (hf : F i = [a]) (m : OwRep K Hz (upd H a o) a d') : Zone K Hz (upd H a o) σ (ρ.set i (.ow d')) F where
  sub := fun b x e => by
    have hb : b ≠ a := fun w => by
      subst w
      rw [z.out i b (by rw [hf]; simp)] at e; cases e
    rw [upd_ne hb]; exact z.sub b x e
  len := by rw [List.length_set]; exact z.len
  slot := fun j b hj hn => by
    by_cases e : j = i
    · subst e
      rw [List.getElem?_set_self (List.getElem?_eq_some_iff.mp hi).1] at hj
      cases hj
      exact ⟨.ref a, hv, a, rfl, hf, m⟩
    · rw [set_ge e] at hj
      obtain ⟨v, h1, h2⟩ := z.slot j b hj hn
      refine ⟨v, h1, h2.keep (.refl _) fun c hc => upd_ne fun w => ?_⟩
      subst w
      exact e (z.apart j i c hc (by rw [hf]; simp))
  out := z.out
  apart := z.apart
  dead := fun j h => by
    by_cases e : j = i
    · subst e
      rcases h with h | h
      · rw [List.getElem?_set_self (List.getElem?_eq_some_iff.mp hi).1] at h; cases h
      · rw [List.getElem?_set_self (List.getElem?_eq_some_iff.mp hi).1] at h; cases h
    · rw [set_ge e] at h; exact z.dead j h
theorem Step.write {a : Addr} {o : HO} (h : Own F a) : Step Hz H F Hz (upd H a o) F where
  z := .refl _
  fr := fun b x e n => by rw [upd_ne fun w => by subst w; exact n h]; exact e
  nz := fun _ h => .inl h
  no := fun _ h => .inr h
  dom := fun b e => by
    by_cases hb : b = a
    · subst hb; rw [upd_same]; exact fun w => nomatch w
    · rw [upd_ne hb]; exact e
theorem Zone.owned {i : Nat} {d : D} (z : Zone K Hz H σ ρ F) (hi : ρ[i]? = some (.ow d)) : ∃ a, σ[i]? = some (some (.ref a)) ∧ F i = [a] ∧ OwRep K Hz H a d := by
  obtain ⟨v, h1, m⟩ := z.slot i _ hi (fun w => nomatch w)
  obtain ⟨a, rfl, e, o⟩ := m
  exact ⟨a, h1, e, o⟩
end

def Rs.frS (r : RE) (k : D → Env → RS) : RS := r.bS fun b ρ => match frz b with
  | some d => k d ρ
  | none => .bad
def owL (ρ : Env) (i : Nat) : Option (List D) := match ρ[i]? with
  | some (.ow (.list ds)) => some ds
  | _ => none
theorem owL_some {ρ : Env} {i : Nat} {ds : List D} (h : owL ρ i = some ds) : ρ[i]? = some (.ow (.list ds)) := by
  unfold owL at h
  split at h
  · rename_i e q; rw [q]; cases h; rfl
  · cases h
/-- x.append(e) -/
def sAppend (i : Nat) (f : SE) : SS := fun ρ => if (owL ρ i).isSome = true then (f ρ).frS fun d ρ1 => match owL ρ1 i with
  | some ds => if ds.length < sizeLine then .nx (ρ1.set i (.ow (.list (ds ++ [d])))) else .bad
  | none => .bad else .bad
/-- x[e] = v for an owned list -/
def setAt (ds : List D) (k d : D) : Option (List D) := match k with
  | .int k => (ixN ds.length k).map fun j => ds.set j d
  | _ => none
def sSetL (i : Nat) (fi fv : SE) : SS := fun ρ => (fv ρ).frS fun d ρ1 => if (owL ρ1 i).isSome = true then (fi ρ1).frS fun k ρ2 => match (owL ρ2 i).bind fun ds => setAt ds k d with
  | some ds' => .nx (ρ2.set i (.ow (.list ds')))
  | none => .bad else .bad
section
variable {T : Tx} {W : WX} {P : List Nat} {Hz H Hz1 H1 : Hp} {F F1 : Nat → List Addr} {σ : L2.St} {ρ : Env} {D : Ends}
theorem AftS.frS {r : RE} {k : FK.D → Env → RS} (h : AftS T W P Hz H F σ (r.frS k) D) : Aft T W Hz H F σ (PB T.K F) r fun v H1 => ∃ Hz1 F1 d ρ1, Zone T.K Hz1 H1 σ ρ1 F1 ∧ Step Hz H F Hz1 H1 F1 ∧ Rep T.K Hz1 v d ∧ AftS T W P Hz1 H1 F1 σ (k d ρ1) D := by
  refine Aft.imp (AftS.bS (PP := PB T.K F) h) fun v H1 ⟨Hz1, F1, b, ρ1, z1, s1, r1, q1⟩ => ?_
  cases e : frz b with
  | none => rw [e] at q1; cases q1
  | some d =>
    rw [e] at q1
    obtain ⟨Hz2, z2, s2, r2⟩ := freeze e z1 s1 r1
    exact ⟨Hz2, F1, d, ρ1, z2, s2, r2, AftS.from q1 s2 (.refl _ _)⟩
end
section
variable {X : Cx} {T : Tx} {W : WX} {P : List Nat} {e ix : Expr} {f fi : SE} {pos pos' p1 p2 : Pos}
theorem s_append {i : Nat} {x : Str} {apos cpos : Pos} (hK : X.K = T.K) (hN : X.N[i]? = some x) (hv : Vis X.env.scope x) (hd : (x == ("__debug__" : Str)) = false) (hcd : (x == ("__classdict__" : Str)) = false) (he : PE X e (tE T W f))
    (hfew : ((backTo cpos (starEach [e] X.env)).all (fun x => !x.1) && (backToKw cpos (keywordEach [] X.env)).all (fun x => x.1.isSome) && decide ([e].length + ([] : List Keyword).length + (if ([] : List Keyword).isEmpty then 0 else 1) < 30)) = true)
    (hline : (apos.endLine == cpos.line) = true) (hs : starEach [e] X.env = (false, eval e X.env) :: starEach [] X.env) (hbase : attributeBase (.Name x p1) "append" X.env (eval (.Name x p1) X.env) = eval (.Name x p1) X.env)
    (hsw : swapsWith (.Call (.Attribute (.Name x p1) "append" apos) [e] [] cpos) none pos.line X.env = pure false) :
    PS X (.Expr (.Call (.Attribute (.Name x p1) "append" apos) [e] [] cpos) pos) (tS T W P (sAppend i f)) := by
  refine PS.mono (ps_expr (pe_bm PySem.F.plainAttrs_list PySem.F.slot_list_append PySem.F.type_list_append mt_append (pe_var hN hv hd hcd) (pa_cons he pa_nil hs) hbase hfew hline hs (by rfl)) hsw) fun D σ H ⟨Hz, ρ, F, z, h⟩ => ?_
  unfold sAppend at h
  by_cases ho : (owL ρ i).isSome = true
  · rw [if_pos ho] at h
    obtain ⟨ds, hds⟩ := Option.isSome_iff_exists.mp ho
    obtain ⟨a, ha, hf, vs0, o1, o2⟩ := z.owned (owL_some hds)
    refine ⟨.ref a, ha, .inl ⟨rfl, _, SqL.of o1⟩, Hz, ρ, F, z, Aft.imp (AftS.frS h) fun v H1 ⟨Hz1, F1, d, ρ1, z1, s1, r1, q1⟩ => ?_⟩
    cases ho1 : owL ρ1 i with
    | none => rw [ho1] at q1; cases q1
    | some ds1 =>
      rw [ho1] at q1
      obtain ⟨a1, ha1, hf1, vs1, o3, o4⟩ := z1.owned (owL_some ho1)
      rw [ha] at ha1; cases ha1
      by_cases hl : ds1.length < sizeLine
      · simp only [hl, if_true] at q1
        refine ⟨a, vs1, v, rfl, rfl, o3, by rw [o4.length]; exact hl, ?_⟩
        exact q1 σ Hz1 _ F1 (z1.write (owL_some ho1) ha hf1 ⟨_, upd_same, o4.append (.cons r1 .nil)⟩) (.write ⟨i, by rw [hf1]; simp⟩) (.refl _ _)
      · simp only [hl, if_false] at q1; exact q1.elim
  · rw [if_neg ho] at h; cases h
theorem s_setL {i : Nat} {x : Str} (hN : X.N[i]? = some x) (hv : Vis X.env.scope x) (hd : (x == ("__debug__" : Str)) = false) (hcd : (x == ("__classdict__" : Str)) = false) (he : PE X e (tE T W f)) (hi : PE X ix (tE T W fi))
    (hs : swapsWithSole [.Subscript (.Name x p1) ix p2] e pos.line X.env = pure false) (hw : swappedStores [.Subscript (.Name x p1) ix p2] e X.env = pure none)
    (ha : ∀ v, assign (.Subscript (.Name x p1) ix p2) X.env v = (do
      let ov ← holding [v] (eval (.Name x p1) X.env)
      let iv ← holding [v, ov] (eval ix X.env)
      standAt p2
      holding [v, ov, iv] (setItem ov iv v)
      release [v, ov, iv] [])) (h1 : (assignEach [.Subscript (.Name x p1) ix p2] X.env).map (·.2) = [assign (.Subscript (.Name x p1) ix p2) X.env]) :
    PS X (.Assign [.Subscript (.Name x p1) ix p2] e pos) (tS T W P (sSetL i fi f)) := by
  refine PS.mono (ps_asg he (pg_sub (pe_var hN hv hd hcd) hi set_list ha) hs hw h1) fun D σ H ⟨Hz, ρ, F, z, h⟩ => ⟨Hz, ρ, F, z, Aft.imp (AftS.frS h) fun v H1 ⟨Hz1, F1, d, ρ1, z1, s1, r1, q1⟩ => ?_⟩
  by_cases ho : (owL ρ1 i).isSome = true
  · rw [if_pos ho] at q1
    obtain ⟨ds, hds⟩ := Option.isSome_iff_exists.mp ho
    obtain ⟨a, ha', hf, vs0, o1, o2⟩ := z1.owned (owL_some hds)
    refine ⟨.ref a, ha', Hz1, ρ1, F1, z1, Aft.imp (AftS.frS q1) fun u H2 ⟨Hz2, F2, k, ρ2, z2, s2, r2, q2⟩ => ?_⟩
    cases ho2 : owL ρ2 i with
    | none => rw [ho2] at q2; cases q2
    | some ds2 =>
      rw [ho2] at q2
      obtain ⟨a2, ha2, hf2, vs2, o3, o4⟩ := z2.owned (owL_some ho2)
      rw [ha'] at ha2; cases ha2
      have q2 : AftS T W P Hz2 H2 F2 σ (match setAt ds2 k d with
        | some ds' => .nx (ρ2.set i (.ow (.list ds')))
        | none => .bad) D := q2
      cases k with
      | int n =>
        unfold setAt at q2
        cases hj : ixN ds2.length n with
        | none => simp only [hj] at q2; cases q2
        | some j =>
          simp only [hj] at q2
          cases r2
          refine ⟨a, vs2, n, j, rfl, rfl, o3, by rw [o4.length]; exact hj, ?_⟩
          exact q2 σ Hz2 _ F2 (z2.write (owL_some ho2) ha' hf2 ⟨_, upd_same, o4.set (r1.mono s2.z) j⟩) (.write ⟨i, by rw [hf2]; simp⟩) (.refl _ _)
      | _ => cases q2
  · rw [if_neg ho] at q1; cases q1
end
end FK

set_option Elab.async false
set_option linter.all false
set_option maxRecDepth 100000
/-! FK 9: lent names; list comprehensions. -/
namespace FK
open PySem PySem.Spec PyProof.Rows L2

mutual
/-- no list, no dict within -/
def pureD : D → Bool
  | .tuple ds => pureL ds
  | .list _ => false
  | .dict _ => false
  | _ => true
def pureL : List D → Bool
  | [] => true
  | d :: ds => pureD d && pureL ds
end
def pureB : B → Bool
  | .no => true
  | .fr d => pureD d
  | .ow (.list ds) => pureL ds
  | .ow (.dict ps) => ps.all fun p => pureD p.2
  | _ => false
def isFr : B → Bool
  | .fr _ => true
  | _ => false
def drp (H : Hp) (a : Addr) : Hp := fun b => if b = a then none else H b
theorem drp_same {H : Hp} {a : Addr} : drp H a a = none := if_pos rfl
theorem drp_ne {H : Hp} {a b : Addr} (h : b ≠ a) : drp H a b = H b := if_neg h
theorem drp_le {H : Hp} {a : Addr} : Same (drp H a) H := fun b x e => by
  by_cases hb : b = a
  · subst hb; rw [drp_same] at e; cases e
  · rw [drp_ne hb] at e; exact e
/-- what stands there is no tuple -/
def NoTup (o : Option HO) : Prop := ∀ xs, o ≠ some (.tup xs) ∧ ∀ u, o ≠ some (.frz u (.tup xs))
theorem seqT_drp {K : Fg} {H : Hp} {a b : Addr} {xs : List V} (n : NoTup (H a)) (h : SqT K H b xs) : SqT K (drp H a) b xs := by
  rcases h with h | h
  · left
    by_cases hb : b = a
    · subst hb
      rcases h with h | ⟨o, h⟩
      · exact absurd h (n xs).1
      · exact absurd h ((n xs).2 o)
    · rcases h with h | ⟨o, h⟩
      · exact .inl (by rw [drp_ne hb]; exact h)
      · exact .inr ⟨o, by rw [drp_ne hb]; exact h⟩
  · exact .inr h
theorem tup_drp {H : Hp} {a b : Addr} {xs : List V} (n : NoTup (H a)) (e : H b = some (.tup xs)) : drp H a b = some (.tup xs) := by
  by_cases hb : b = a
  · rw [hb] at e; exact absurd e (n _).1
  · rw [drp_ne hb]; exact e
mutual
theorem Rep.drp {K : Fg} {H : Hp} {a : Addr} (n : NoTup (H a)) : ∀ {v : V} {d : D}, Rep K H v d → pureD d = true → Rep K (drp H a) v d
  | _, _, .non, _ => .non
  | _, _, .bl b, _ => .bl b
  | _, _, .int i, _ => .int i
  | _, _, .str x, _ => .str x
  | _, _, .lst h r, p => by simp [pureD] at p
  | _, _, .tup h r x, p => .tup (seqT_drp n h) (RepL.drp n r (by simpa [pureD] using p)) (fun q => tup_drp n (x q))
  | _, _, .dK h r, p => by simp [pureD] at p
  | _, _, .dT h r, p => by simp [pureD] at p
theorem RepL.drp {K : Fg} {H : Hp} {a : Addr} (n : NoTup (H a)) : ∀ {vs : List V} {ds : List D}, RepL K H vs ds → pureL ds = true → RepL K (drp H a) vs ds
  | _, _, .nil, _ => .nil
  | _, _, .cons r t, p => by
    rw [pureL, Bool.and_eq_true] at p
    exact .cons (Rep.drp n r p.1) (RepL.drp n t p.2)
end
theorem RepP.drp {K : Fg} {H : Hp} {a : Addr} (n : NoTup (H a)) : ∀ {vs : List (D × V)} {ds : List (D × D)}, RepP K H vs ds → (ds.all fun p => pureD p.2) = true → RepP K (drp H a) vs ds
  | _, _, .nil, _ => .nil
  | _, _, .cons r t, p => by
    rw [List.all_cons, Bool.and_eq_true] at p
    exact .cons (r.drp n p.1) (RepP.drp n t p.2)
theorem MRep.drp {K : Fg} {Hz H : Hp} {a : Addr} {fp : List Addr} {v : V} {b : B} (n : NoTup (Hz a)) (m : MRep K Hz H fp v b) (p : pureB b = true) : MRep K (drp Hz a) H fp v b := by
  cases b with
  | no => exact m
  | fr d => exact ⟨m.1, m.2.drp n p⟩
  | ow d =>
    obtain ⟨c, h1, h2, o⟩ := m
    refine ⟨c, h1, h2, ?_⟩
    cases d with
    | list ds => obtain ⟨vs, q, r⟩ := o; exact ⟨vs, q, r.drp n p⟩
    | dict ps =>
      rcases o with ⟨k, q, r⟩ | ⟨k, q, r⟩
      · exact .inl ⟨k, q, r.drp n p⟩
      · exact .inr ⟨k, q, r.drp n p⟩
    | _ => cases o
  | ob c fs => cases p
open Classical in
/-- behind e, name i may be owned again: what came and what changed leans on no list or dict -/
noncomputable def okBack (i : Nat) (d : D) (b : B) (ρ ρ' : Env) : Bool := pureB b && decide (ρ'[i]? = some (.fr d)) && decide (∀ j, j ≠ i → ∀ c, ρ'[j]? = some c → pureB c = true ∨ (ρ[j]? = some c ∧ isFr c = true))
/-- e, while name i is lent: frozen; behind e it is owned again where nothing leans on it -/
noncomputable def sLend (i : Nat) (f : SE) : SE := fun ρ => match ρ[i]? with
  | some (.ow d) => (f (ρ.set i (.fr d))).bnd fun b ρ' => if okBack i d b ρ ρ' = true then .ok b (ρ'.set i (.ow d)) else .ok b ρ'
  | _ => f ρ
section
variable {K : Fg} {Hz H Hz1 H1 : Hp} {F F1 : Nat → List Addr} {σ : L2.St} {ρ ρ' : Env} {i : Nat} {a : Addr} {d : D} {b : B} {v : V}
theorem noTup_of {K : Fg} {Hz H : Hp} {a : Addr} {d : D} (o : OwRep K Hz H a d) : NoTup (H a) := by
  cases d with
  | list ds => obtain ⟨vs, q, _⟩ := o; rw [q]; exact fun xs => ⟨(fun z => nomatch z), (fun u z => nomatch z)⟩
  | dict ps =>
    rcases o with ⟨k, q, _⟩ | ⟨k, q, _⟩
    · rw [q]; exact fun xs => ⟨(fun z => nomatch z), (fun u z => nomatch z)⟩
    · rw [q]; exact fun xs => ⟨(fun z => nomatch z), (fun u z => nomatch z)⟩
  | _ => cases o
theorem Zone.lend (z : Zone K Hz H σ ρ F) (hi : ρ[i]? = some (.ow d)) (hv : σ[i]? = some (some (.ref a))) (hf : F i = [a]) (o : OwRep K Hz H a d) : Zone K (frz1 Hz H a) H σ (ρ.set i (.fr d)) (putF F i []) := by
  have hz : Hz a = none := z.out i a (by rw [hf]; simp)
  have z1 := z.clear (i := i)
  have z2 := z1.freeze hz fun w => by
    rcases own_put w with w | ⟨j, hj, w⟩
    · cases w
    · exact hj (z.apart j i a w (by rw [hf]; simp))
  have hl : i < ρ.length := (List.getElem?_eq_some_iff.mp hi).1
  have z3 := z2.store (i := i) (b := .fr d) (v := .ref a) (fp := []) (by rw [List.length_set]; exact hl) ⟨rfl, o.rep hz⟩ fun c hc => nomatch hc
  rw [List.set_set] at z3
  have e : σ.set i (some (V.ref a)) = σ := by
    apply List.ext_getElem?
    intro j
    by_cases hj : j = i
    · subst hj; rw [List.getElem?_set_self (by rw [← z.len]; exact hl), hv]
    · rw [List.getElem?_set_ne (Ne.symm hj)]
  rw [e] at z3
  have e2 : putF (putF F i []) i [] = putF F i [] := by
    funext j
    by_cases hj : j = i
    · subst hj; rw [putF_same, putF_same]
    · rw [putF_ne hj]
  rw [e2] at z3
  exact z3
theorem Step.lend (hz : Hz a = none) (hf : F i = [a]) : Step Hz H F (frz1 Hz H a) H (putF F i []) :=
  ⟨frz1_ge hz, fun _ _ h _ => h, fun b h => by
    by_cases hb : b = a
    · subst hb; exact .inr (.inr ⟨i, by rw [hf]; simp⟩)
    · rw [frz1_ne hb] at h; exact .inl h, fun b h => (own_put h).elim (fun w => nomatch w) fun ⟨j, _, w⟩ => .inr ⟨j, w⟩, fun _ h => h⟩
theorem Zone.unlend (z : Zone K Hz H σ ρ F) (hi : ρ[i]? = some (.ow d)) (hv : σ[i]? = some (some (.ref a))) (hf : F i = [a]) (o : OwRep K Hz H a d) (z1 : Zone K Hz1 H1 σ ρ' F1) (s : Step Hz H F Hz1 H1 F1) (hs : Same (frz1 Hz H a) Hz1)
    (hb : ∀ j, j ≠ i → ∀ c, ρ'[j]? = some c → pureB c = true ∨ (ρ[j]? = some c ∧ isFr c = true)) (hr : ρ'[i]? = some (.fr d)) : Zone K (FK.drp Hz1 a) H1 σ (ρ'.set i (.ow d)) (putF F1 i [a]) ∧ NoTup (Hz1 a) ∧ ¬ Own F1 a := by
  have hz : Hz a = none := z.out i a (by rw [hf]; simp)
  have ea : Hz1 a = H a := by
    obtain ⟨x, hx⟩ := ex_of_ne (z.there (a := a) ⟨i, by rw [hf]; simp⟩)
    rw [hs a x (by rw [frz1_same]; exact hx), hx]
  have nt : NoTup (Hz1 a) := by rw [ea]; exact noTup_of o
  have na : ¬ Own F1 a := fun w => by
    have := z1.notIn w
    rw [ea] at this
    exact z.there (a := a) ⟨i, by rw [hf]; simp⟩ this
  have hl : i < ρ'.length := (List.getElem?_eq_some_iff.mp hr).1
  have sd : Same Hz (FK.drp Hz1 a) := fun c x e => by
    have hc : c ≠ a := ne_of_none e hz
    rw [drp_ne hc]; exact s.z c x e
  have e1 : H1 a = H a := by
    obtain ⟨x, hx⟩ := ex_of_ne (z.there (a := a) ⟨i, by rw [hf]; simp⟩)
    rw [hx]; exact z1.sub a x (by rw [ea]; exact hx)
  have fi1 : F1 i = [] := by
    cases q : F1 i with
    | nil => rfl
    | cons c r =>
      obtain ⟨w, _, m⟩ := z1.slot i _ hr (fun w => nomatch w)
      rw [q] at m
      exact absurd m.1 (fun w => nomatch w)
  refine ⟨⟨drp_le.trans z1.sub, by rw [List.length_set]; exact z1.len, fun j c hj hn => ?_, fun j c hc => ?_, fun j k c h1 h2 => ?_, fun j h => ?_⟩, nt, na⟩
  · by_cases e : j = i
    · subst e
      rw [List.getElem?_set_self hl] at hj
      cases hj
      exact ⟨.ref a, hv, a, rfl, putF_same, o.keep sd e1⟩
    · rw [set_ge e] at hj
      obtain ⟨w, h1, h2⟩ := z1.slot j c hj hn
      rw [putF_ne e]
      refine ⟨w, h1, ?_⟩
      rcases hb j e c hj with p | ⟨p, q⟩
      · exact h2.drp nt p
      · cases c with
        | fr d' =>
          obtain ⟨w', h3, h4⟩ := z.slot j _ p (fun w => nomatch w)
          rw [h1] at h3; cases h3
          exact ⟨h2.1, h4.2.mono sd⟩
        | _ => cases q
  · by_cases e : j = i
    · subst e
      rw [putF_same] at hc
      have : c = a := by simpa using hc
      subst this; exact drp_same
    · rw [putF_ne e] at hc
      by_cases hca : c = a
      · subst hca; exact drp_same
      · rw [drp_ne hca]; exact z1.out j c hc
  · by_cases e : j = i
    · subst e
      by_cases e2 : k = j
      · exact e2.symm
      · rw [putF_same] at h1; rw [putF_ne e2] at h2
        have : c = a := by simpa using h1
        subst this; exact absurd ⟨k, h2⟩ na
    · rw [putF_ne e] at h1
      by_cases e2 : k = i
      · subst e2
        rw [putF_same] at h2
        have : c = a := by simpa using h2
        subst this; exact absurd ⟨j, h1⟩ na
      · rw [putF_ne e2] at h2; exact z1.apart j k c h1 h2
  · by_cases e : j = i
    · subst e
      rcases h with h | h
      · rw [List.getElem?_set_self hl] at h; cases h
      · rw [List.getElem?_set_self hl] at h; cases h
    · rw [set_ge e] at h
      rw [putF_ne e]; exact z1.dead j h
end
section
variable {X : Cx} {T : Tx} {W : WX} {e : Expr} {f : SE}
theorem e_lend {i : Nat} (he : PE X e (tE T W f)) : PE X e (tE T W (sLend i f)) := by
  refine PE.mono he fun σ H Q ⟨Hz, ρ, F, z, h⟩ => ?_
  unfold sLend at h
  cases q : ρ[i]? with
  | none => rw [q] at h; exact ⟨Hz, ρ, F, z, h⟩
  | some b =>
    rw [q] at h
    cases b with
    | ow d =>
      obtain ⟨a, hv, hf, o⟩ := z.owned q
      have hz : Hz a = none := z.out i a (by rw [hf]; simp)
      have st := Step.lend (H := H) hz hf
      refine ⟨_, _, _, z.lend q hv hf o, ?_⟩
      have h : Aft T W Hz H F σ (PB T.K F) ((f (ρ.set i (.fr d))).bnd fun b ρ' => if okBack i d b ρ ρ' = true then .ok b (ρ'.set i (.ow d)) else .ok b ρ') Q := h
      generalize f (ρ.set i (.fr d)) = r at h
      cases r with
      | bad => exact h
      | exc x ρ' => exact fun cls dd Hz' H' F' z' s' q' => h cls dd Hz' H' F' z' (st.trans s') q'
      | ok b ρ' =>
        intro v Hz' H' F' z' s' pb
        have s2 := st.trans s'
        have pb2 : PB T.K F b v H Hz' H' F' := by
          obtain ⟨fp, m, k⟩ := pb
          refine ⟨fp, m, fun c hc => ⟨(k c hc).1, (k c hc).2.1, (k c hc).2.2.imp id fun w => ?_⟩⟩
          rcases own_put w with w | ⟨j, _, w⟩
          · cases w
          · exact ⟨j, w⟩
        by_cases ok : okBack i d b ρ ρ' = true
        · have h : Aft T W Hz H F σ (PB T.K F) (if okBack i d b ρ ρ' = true then .ok b (ρ'.set i (.ow d)) else .ok b ρ') Q := h
          rw [if_pos ok] at h
          unfold okBack at ok
          simp only [Bool.and_eq_true, decide_eq_true_eq] at ok
          obtain ⟨⟨k1, k2⟩, k3⟩ := ok
          obtain ⟨z2, nt, na⟩ := z.unlend q hv hf o z' s2 s'.z k3 k2
          obtain ⟨fp, m, k⟩ := pb2
          have ka : a ∉ fp := fun w => by
            have := (k a w).1
            obtain ⟨x, hx⟩ := ex_of_ne (z.there (a := a) ⟨i, by rw [hf]; simp⟩)
            rw [s'.z a x (by rw [frz1_same]; exact hx)] at this
            cases this
          refine h v _ H' _ z2 ⟨fun c x e => by rw [drp_ne (ne_of_none e hz)]; exact s2.z c x e, s2.fr, fun c hc => s2.nz c fun w => hc (by
            by_cases hca : c = a
            · subst hca; exact drp_same
            · rw [drp_ne hca]; exact w), fun c hc => ?_, s2.dom⟩ ⟨fp, m.drp nt k1, fun c hc => ⟨?_, fun w => ?_, (k c hc).2.2⟩⟩
          · rcases own_put hc with w | ⟨j, _, w⟩
            · have : c = a := by simpa using w
              subst this; exact .inr ⟨i, by rw [hf]; simp⟩
            · exact s2.no c ⟨j, w⟩
          · by_cases hca : c = a
            · subst hca; exact drp_same
            · rw [drp_ne hca]; exact (k c hc).1
          · rcases own_put w with w | ⟨j, _, w⟩
            · have : c = a := by simpa using w
              subst this; exact ka hc
            · exact (k c hc).2.1 ⟨j, w⟩
        · have h : Aft T W Hz H F σ (PB T.K F) (if okBack i d b ρ ρ' = true then .ok b (ρ'.set i (.ow d)) else .ok b ρ') Q := h
          rw [if_neg ok] at h
          exact h v Hz' H' F' z' s2 pb2
    | no => exact ⟨Hz, ρ, F, z, h⟩
    | fr d => exact ⟨Hz, ρ, F, z, h⟩
    | ob c fs => exact ⟨Hz, ρ, F, z, h⟩
end
end FK

set_option Elab.async false
set_option linter.all false
set_option maxRecDepth 100000
/-! FK 10: list comprehensions. -/
namespace FK
open PySem PySem.Spec PyProof.Rows L2

def wipeB (vs : List Nat) (ρ : Env) : Env := match vs with
  | [] => ρ
  | v :: r => (wipeB r ρ).set v .no
/-- behind a block: the block's own names as they were ahead -/
def keepE (vs : List Nat) (ρ ρ' : Env) : Env := match vs with
  | [] => ρ'
  | v :: r => match ρ[v]? with
    | some b => (keepE r ρ ρ').set v b
    | none => keepE r ρ ρ'
def wipeF (vs : List Nat) (F : Nat → List Addr) : Nat → List Addr := fun i => if i ∈ vs then [] else F i
def keepF (vs : List Nat) (F F' : Nat → List Addr) : Nat → List Addr := fun i => if i ∈ vs then F i else F' i
theorem wipeB_length (ρ : Env) : ∀ vs : List Nat, (wipeB vs ρ).length = ρ.length
  | [] => rfl
  | v :: r => by unfold wipeB; rw [List.length_set, wipeB_length ρ r]
theorem wipeB_out {ρ : Env} {i : Nat} : ∀ {vs : List Nat}, i ∉ vs → (wipeB vs ρ)[i]? = ρ[i]?
  | [], _ => rfl
  | v :: r, h => by
    simp only [List.mem_cons, not_or] at h
    unfold wipeB; rw [set_ge h.1]; exact wipeB_out h.2
theorem wipeB_in {ρ : Env} {i : Nat} : ∀ {vs : List Nat}, i ∈ vs → (wipeB vs ρ)[i]? = none ∨ (wipeB vs ρ)[i]? = some .no
  | v :: r, h => by
    unfold wipeB
    by_cases e : i = v
    · subst e
      by_cases hl : i < (wipeB r ρ).length
      · exact .inr (List.getElem?_set_self hl)
      · exact .inl (List.getElem?_eq_none (by simpa using hl))
    · rw [set_ge e]
      exact wipeB_in ((List.mem_cons.mp h).resolve_left e)
theorem wipe_out {σ : L2.St} {i : Nat} : ∀ {vs : List Nat}, i ∉ vs → (wipe σ vs)[i]? = σ[i]?
  | [], _ => rfl
  | v :: r, h => by
    simp only [List.mem_cons, not_or] at h
    unfold wipe; rw [set_ge h.1]; exact wipe_out h.2
theorem keepE_length {ρ ρ' : Env} : ∀ vs : List Nat, (keepE vs ρ ρ').length = ρ'.length
  | [] => rfl
  | v :: r => by
    unfold keepE
    split
    · rw [List.length_set, keepE_length r]
    · exact keepE_length r
theorem keepE_out {ρ ρ' : Env} {i : Nat} : ∀ {vs : List Nat}, i ∉ vs → (keepE vs ρ ρ')[i]? = ρ'[i]?
  | [], _ => rfl
  | v :: r, h => by
    simp only [List.mem_cons, not_or] at h
    unfold keepE
    split
    · rw [set_ge h.1]; exact keepE_out h.2
    · exact keepE_out h.2
theorem keepE_in {ρ ρ' : Env} {i : Nat} (hl : ρ'.length = ρ.length) : ∀ {vs : List Nat}, i ∈ vs → (keepE vs ρ ρ')[i]? = ρ[i]?
  | v :: r, h => by
    unfold keepE
    by_cases e : i = v
    · subst e
      split
      · rename_i b hb
        rw [List.getElem?_set_self (by rw [keepE_length, hl]; exact (List.getElem?_eq_some_iff.mp hb).1), hb]
      · rename_i hb
        rw [hb]
        refine List.getElem?_eq_none ?_
        rw [keepE_length, hl]
        exact List.getElem?_eq_none_iff.mp hb
    · split
      · rw [set_ge e]; exact keepE_in hl ((List.mem_cons.mp h).resolve_left e)
      · exact keepE_in hl ((List.mem_cons.mp h).resolve_left e)
theorem own_wipe {vs : List Nat} {F : Nat → List Addr} {a : Addr} (h : Own (wipeF vs F) a) : ∃ i, i ∉ vs ∧ a ∈ F i := by
  obtain ⟨i, hi⟩ := h
  unfold wipeF at hi
  split at hi
  · cases hi
  · rename_i e; exact ⟨i, e, hi⟩
section
variable {K : Fg} {Hz H Hz1 H1 : Hp} {F F1 : Nat → List Addr} {σ σ1 : L2.St} {ρ ρ1 : Env} {vs : List Nat}
theorem Zone.wipe (z : Zone K Hz H σ ρ F) : Zone K Hz H (L2.wipe σ vs) (wipeB vs ρ) (wipeF vs F) where
  sub := z.sub
  len := by rw [wipeB_length, wipe_length]; exact z.len
  slot := fun i b h hn => by
    by_cases e : i ∈ vs
    · rcases wipeB_in (ρ := ρ) e with q | q
      · rw [q] at h; cases h
      · rw [q] at h; cases h; exact absurd rfl hn
    · rw [wipeB_out e] at h
      obtain ⟨v, h1, m⟩ := z.slot i b h hn
      exact ⟨v, by rw [wipe_out e]; exact h1, by unfold wipeF; rw [if_neg e]; exact m⟩
  out := fun i a h => by
    obtain ⟨j, _, w⟩ := own_wipe ⟨i, h⟩
    exact z.out j a w
  apart := fun i j a h1 h2 => by
    unfold wipeF at h1 h2
    split at h1
    · cases h1
    · split at h2
      · cases h2
      · exact z.apart i j a h1 h2
  dead := fun i h => by
    unfold wipeF
    by_cases e : i ∈ vs
    · rw [if_pos e]
    · rw [if_neg e]
      rw [wipeB_out e] at h
      exact z.dead i h
theorem Step.wipe : Step Hz H F Hz H (wipeF vs F) := ⟨.refl _, fun _ _ h _ => h, fun _ h => .inl h, fun a h => by
  obtain ⟨i, _, w⟩ := own_wipe h
  exact .inr ⟨i, w⟩, fun _ h => h⟩
/-- behind the block, in the def's own names -/
theorem Zone.unwipe (z : Zone K Hz H σ ρ F) (z1 : Zone K Hz1 H1 σ1 ρ1 F1) (s : Step Hz H (wipeF vs F) Hz1 H1 F1) (c : Chg vs (L2.wipe σ vs) σ1) : Zone K Hz1 H1 σ (keepE vs ρ ρ1) (keepF vs F F1) ∧ Step Hz H F Hz1 H1 (keepF vs F F1) := by
  have hl : ρ1.length = ρ.length := by rw [z1.len, c.1, wipe_length, ← z.len]
  have keepAt : ∀ i a, i ∈ vs → a ∈ F i → H1 a = H a ∧ Hz1 a = none ∧ ¬ Own F1 a := fun i a e ha => by
    have nw : ¬ Own (wipeF vs F) a := fun w => by
      obtain ⟨j, hj, w⟩ := own_wipe w
      have := z.apart i j a ha w
      subst this; exact hj e
    have hne := z.there ⟨i, ha⟩
    obtain ⟨o, ho⟩ := ex_of_ne hne
    refine ⟨by rw [s.fr a o ho nw, ho], ?_, fun w => ?_⟩
    · cases q : Hz1 a with
      | none => rfl
      | some o' =>
        rcases s.nz a (by rw [q]; exact fun w => nomatch w) with w | w | w
        · exact absurd (z.out i a ha) w
        · exact absurd w hne
        · exact absurd w nw
    · rcases s.no a w with w | w
      · exact hne w
      · exact nw w
  have sl : ∀ i, i ∉ vs → σ1[i]? = σ[i]? := fun i e => by rw [c.2 i e, wipe_out e]
  refine ⟨⟨z1.sub, by rw [keepE_length, hl]; exact z.len, fun i b h hn => ?_, fun i a h => ?_, fun i j a h1 h2 => ?_, fun i h => ?_⟩, ⟨s.z, fun a o h n => s.fr a o h fun w => ?_, fun a h => (s.nz a h).imp id fun w => w.imp id fun w => ?_, fun a h => ?_, s.dom⟩⟩
  · by_cases e : i ∈ vs
    · rw [keepE_in hl e] at h
      obtain ⟨v, h1, m⟩ := z.slot i b h hn
      refine ⟨v, h1, ?_⟩
      unfold keepF; rw [if_pos e]
      exact m.keep s.z fun a ha => (keepAt i a e ha).1
    · rw [keepE_out e] at h
      obtain ⟨v, h1, m⟩ := z1.slot i b h hn
      refine ⟨v, by rw [← sl i e]; exact h1, ?_⟩
      unfold keepF; rw [if_neg e]; exact m
  · unfold keepF at h
    by_cases e : i ∈ vs
    · rw [if_pos e] at h; exact (keepAt i a e h).2.1
    · rw [if_neg e] at h; exact z1.out i a h
  · unfold keepF at h1 h2
    by_cases e : i ∈ vs
    · rw [if_pos e] at h1
      by_cases e2 : j ∈ vs
      · rw [if_pos e2] at h2; exact z.apart i j a h1 h2
      · rw [if_neg e2] at h2; exact absurd ⟨j, h2⟩ (keepAt i a e h1).2.2
    · rw [if_neg e] at h1
      by_cases e2 : j ∈ vs
      · rw [if_pos e2] at h2; exact absurd ⟨i, h1⟩ (keepAt j a e2 h2).2.2
      · rw [if_neg e2] at h2; exact z1.apart i j a h1 h2
  · unfold keepF
    by_cases e : i ∈ vs
    · rw [if_pos e]; rw [keepE_in hl e] at h; exact z.dead i h
    · rw [if_neg e]; rw [keepE_out e] at h; exact z1.dead i h
  · obtain ⟨j, _, w⟩ := own_wipe w
    exact n ⟨j, w⟩
  · obtain ⟨i, hi⟩ := h
    unfold keepF at hi
    by_cases e : i ∈ vs
    · rw [if_pos e] at hi; exact .inr ⟨i, hi⟩
    · rw [if_neg e] at hi
      exact (s.no a ⟨i, hi⟩).imp id fun w => by
        obtain ⟨j, _, w⟩ := own_wipe w
        exact ⟨j, w⟩
  · obtain ⟨j, _, w⟩ := own_wipe w
    exact ⟨j, w⟩
theorem wipe_chg {L : List Nat} (hL : ∀ i ∈ L, i ∈ vs) (c : Chg L (L2.wipe σ vs) σ1) : L2.wipe σ1 vs = L2.wipe σ vs := by
  have hlen : (L2.wipe σ1 vs).length = (L2.wipe σ vs).length := by rw [wipe_length, c.1]
  apply List.ext_getElem?
  intro i
  by_cases e : i ∈ vs
  · have key : ∀ τ : L2.St, (L2.wipe τ vs)[i]? = if i < τ.length then some none else none := fun τ => by
      clear hlen hL c
      induction vs with
      | nil => cases e
      | cons v r ih =>
        unfold L2.wipe
        by_cases hv : i = v
        · subst hv
          by_cases hl : i < τ.length
          · rw [if_pos hl, List.getElem?_set_self (by rw [wipe_length]; exact hl)]
          · rw [if_neg hl, List.getElem?_eq_none (by rw [List.length_set, wipe_length]; omega)]
        · rw [set_ge hv]; exact ih ((List.mem_cons.mp e).resolve_left hv)
    rw [key, key, c.1, wipe_length]
  · rw [wipe_out e, wipe_out e, c.2 i fun w => e (hL i w), wipe_out e]
theorem Chg.mono {L M : List Nat} (h : ∀ i ∈ L, i ∈ M) (c : Chg L σ σ1) : Chg M σ σ1 := ⟨c.1, fun i hi => c.2 i fun w => hi (h i w)⟩
end

/-- the turns of a comprehension -/
def lcR (vs : List Nat) (g : SG) (ct : STs) (fe : SE) : List D → List D → Env → RE
  | [], acc, ρ => .ok (.ow (.list acc)) ρ
  | d :: ds, acc, ρ => match g d (wipeB vs ρ) with
    | none => .bad
    | some ρ2 => match ct ρ2 with
      | .ok false ρ3 => lcR vs g ct fe ds acc (keepE vs ρ ρ3)
      | .ok true ρ3 => (match fe ρ3 with
        | .ok b ρ4 => (match frz b with
          | some y => if acc.length < sizeLine then lcR vs g ct fe ds (acc ++ [y]) (keepE vs ρ ρ4) else .bad
          | none => .bad)
        | _ => .bad)
      | _ => .bad
def sLc (vs : List Nat) (it : SI) (g : SG) (ct : STs) (fe : SE) : SE := fun ρ => (it ρ).bnd fun ds ρ1 => lcR vs g ct fe ds [] ρ1
def sYes : STs := fun ρ => .ok true ρ
abbrev W0 : WX := fun _ _ _ _ => False
def tTs (T : Tx) (W : WX) (f : STs) : TT := tT T W f
theorem e_lc {X : Cx} {T : Tx} {W : WX} {elt tg iter : Expr} {ifs : List Expr} {scope : Scope} {own : List (Str × Nat)} {pos : Pos} {it : SI} {g : SG} {ct : STs} {fe : SE} {L : List Nat} (hc : X.calm = true) (hN : X.N.Nodup) (hi : PI X tg iter (tI T W it)) (ok : BlkOk X.N X.env.scope scope own)
    (hL : ∀ i ∈ L, i ∈ own.map (·.2))
    (hg : ∀ (s : Shared) (H : Hp) (C : Addr) (cl : List (Str × Addr)) (fp : List Addr), PG (X.blk s H scope (compEnvC scope cl C X.env) fp) tg (tG T L g))
    (ht : ∀ (s : Shared) (H : Hp) (C : Addr) (cl : List (Str × Addr)) (fp : List Addr), PTs (X.blk s H scope (compEnvC scope cl C X.env) fp) ifs (tT T W0 ct))
    (he : ∀ (s : Shared) (H : Hp) (C : Addr) (cl : List (Str × Addr)) (fp : List Addr), PE (X.blk s H scope (compEnvC scope cl C X.env) fp) elt (tE T W0 fe)) (hs : ∀ x, foldedSetIterable iter X.env x = pure x) {t : TE}
    (ht0 : t = tLc (tI T W it) (tG T L g) (tT T W0 ct) (tE T W0 fe) (own.map (·.2))) {σ : L2.St} {H : Hp} {Q : VK} (h : tE T W (sLc (own.map (·.2)) it g ct fe) σ H Q) : t σ H Q := by
  subst ht0
  generalize own.map (·.2) = vs at *
  obtain ⟨Hz, ρ, F, z, h⟩ := h
  refine ⟨Hz, ρ, F, z, Aft.imp (Aft.bnd (P := PIt T.K) h) fun J H1 ⟨Hz1, F1, ds, ρ1, z1, s1, r1, q1⟩ => fun D hD => ?_⟩
  obtain ⟨G, Y, wk, hG, hY⟩ := r1
  have q2 := q1.fromB s1
  refine lc_it wk (fun i H' => ∃ Hz' ρ' F' accV accD, Zone T.K Hz' H' σ ρ' F' ∧ Step Hz1 H1 F1 Hz' H' F' ∧ H' D = some (.lst accV) ∧ RepL T.K Hz' accV accD ∧ Hz' D = none ∧ ¬ Own F' D ∧ Aft T W Hz1 H1 F1 σ (PB T.K F1) (lcR vs g ct fe (ds.drop i) accD ρ') Q)
    ⟨Hz1, ρ1, F1, [], [], z1.push0 hD, .push0 hD, upd_same, .nil, z1.sub.free hD, fun w => z1.there w hD, q2⟩ (fun i H' _ ⟨Hz', ρ', F', accV, accD, z', sm, _⟩ => hG H' (sm.z.trans z'.sub)) (fun i x H' H'' hi ⟨Hz', ρ', F', accV, accD, z', sm, k1, k2, k3, k4, q⟩ y => ?_) fun H' ⟨Hz', ρ', F', accV, accD, z', sm, k1, k2, k3, k4, q⟩ => ?_
  · obtain ⟨d, hd, n⟩ := hY i H' x H'' Hz' hi y sm.z z'.sub
    obtain ⟨Hz2, z2, s2, pb⟩ := new_zone z' n
    obtain ⟨fp, m, _⟩ := pb
    have hdr : ds.drop i = d :: ds.drop (i + 1) := by
      rw [List.drop_eq_getElem_cons hi]
      rw [List.getElem?_eq_getElem hi] at hd
      cases hd; rfl
    rw [hdr] at q
    unfold lcR at q
    have sw : Step Hz2 H'' F' Hz2 H'' (wipeF vs F') := .wipe
    refine ⟨Hz2, _, _, d, z2.wipe (vs := vs), m.2, ?_⟩
    cases eg : g d (wipeB vs ρ') with
    | none => rw [eg] at q; cases q
    | some ρ2 =>
      rw [eg] at q
      intro σ3 Hz3 H3 F3 z3 s3 c3
      refine ⟨wipe_chg hL c3, Hz3, ρ2, F3, z3, ?_⟩
      -- the new list stands through the turn
      have stay : ∀ {Hz4 H4 : Hp} {F4 : Nat → List Addr}, Step Hz2 H'' (wipeF vs F') Hz4 H4 F4 → H4 D = some (.lst accV) ∧ Hz4 D = none ∧ ¬ Own F4 D := fun {Hz4 H4 F4} s4 => by
        have a1 : H'' D = some (.lst accV) := s2.fr D _ k1 k4
        have a2 : ¬ Own (wipeF vs F') D := fun w => by
          obtain ⟨j, _, w⟩ := own_wipe w
          exact k4 ⟨j, w⟩
        have a3 : Hz2 D = none := by
          cases e : Hz2 D with
          | none => rfl
          | some o =>
            rcases s2.nz D (by rw [e]; exact fun w => nomatch w) with w | w | w
            · exact absurd k3 w
            · rw [k1] at w; cases w
            · exact absurd w k4
        refine ⟨s4.fr D _ a1 a2, ?_, fun w => ?_⟩
        · cases e : Hz4 D with
          | none => rfl
          | some o =>
            rcases s4.nz D (by rw [e]; exact fun w => nomatch w) with w | w | w
            · exact absurd a3 w
            · rw [a1] at w; cases w
            · exact absurd w a2
        · rcases s4.no D w with w | w
          · rw [a1] at w; cases w
          · exact a2 w
      -- the end of a turn
      have back : ∀ {Hz4 H4 : Hp} {F4 : Nat → List Addr} {ρ4 : Env}, Zone T.K Hz4 H4 σ3 ρ4 F4 → Step Hz2 H'' (wipeF vs F') Hz4 H4 F4 → Zone T.K Hz4 H4 σ (keepE vs ρ' ρ4) (keepF vs F' F4) ∧ Step Hz1 H1 F1 Hz4 H4 (keepF vs F' F4) ∧ ¬ Own (keepF vs F' F4) D := fun {Hz4 H4 F4 ρ4} z4 s4 => by
        obtain ⟨a1, a2⟩ := z2.unwipe z4 s4 (c3.mono hL)
        refine ⟨a1, sm.trans (s2.trans a2), fun w => ?_⟩
        obtain ⟨j, hj⟩ := w
        unfold keepF at hj
        split at hj
        · exact k4 ⟨j, hj⟩
        · exact (stay s4).2.2 ⟨j, hj⟩
      cases ec : ct ρ2 with
      | bad => simp only [ec] at q; cases q
      | exc x ρ3 => simp only [ec] at q; cases q
      | ok b ρ3 =>
        intro bb Hz4 H4 F4 z4 s4 eb
        cases eb
        have s34 := s3.trans s4
        cases b with
        | false =>
          simp only [ec] at q
          refine iteF ?_
          obtain ⟨a1, a2, a3⟩ := back z4 s34
          obtain ⟨b1, b2, b3⟩ := stay s34
          exact ⟨Hz4, _, _, accV, accD, a1, a2, b1, k2.mono (s2.z.trans s34.z), b2, a3, q⟩
        | true =>
          simp only [ec] at q
          refine iteT ⟨Hz4, ρ3, F4, z4, ?_⟩
          cases ee : fe ρ3 with
          | bad => simp only [ee] at q; cases q
          | exc x ρ4 => simp only [ee] at q; cases q
          | ok b ρ4 =>
            simp only [ee] at q
            intro yv Hz5 H5 F5 z5 s5 pb
            cases ef : frz b with
            | none => simp only [ef] at q; cases q
            | some y =>
              simp only [ef] at q
              obtain ⟨Hz6, z6, s6, r6⟩ := freeze ef z5 s5 pb
              have s36 := s34.trans s6
              obtain ⟨a1, a2, a3⟩ := back z6 s36
              obtain ⟨b1, b2, b3⟩ := stay s36
              by_cases hl : accD.length < sizeLine
              · simp only [hl, if_true] at q
                have kr := k2.mono (s2.z.trans s36.z)
                refine ⟨accV, b1, by rw [kr.length]; exact hl, Hz6, _, _, accV ++ [yv], accD ++ [y], a1.keep (.refl _) (fun c o e => ?_) (fun c hc => upd_ne fun w => by subst w; exact a3 hc) (fun c hc => a1.notIn hc), ⟨a2.z, fun c o e nn => ?_, a2.nz, a2.no, fun c e => ?_⟩, upd_same, kr.append (.cons r6 .nil), b2, a3, q⟩
                · rw [upd_ne (ne_of_none e b2)]; exact a1.sub c o e
                · rw [upd_ne (ne_of_none e hD)]; exact a2.fr c o e nn
                · by_cases hcd : c = D
                  · subst hcd; rw [upd_same]; exact fun w => nomatch w
                  · rw [upd_ne hcd]; exact a2.dom c e
              · simp only [hl, if_false] at q; exact q.elim
  · rw [List.drop_length] at q
    exact q (.ref D) Hz' H' F' z' sm ⟨[D], ⟨D, rfl, rfl, accV, k1, k2⟩, fun c hc => by
      have : c = D := by simpa using hc
      subst this
      exact ⟨k3, k4, .inl hD⟩⟩
end FK

set_option Elab.async false
set_option linter.all false
set_option maxRecDepth 100000
set_option maxHeartbeats 1000000
/-! FK 1b: dicts as data: keys, looking up, putting in. -/
namespace FK
open PySem PySem.Spec PyProof.Rows L2
/-- the key that a datum is -/
def keyE : D → Option Key
  | .int i => some (.inl i)
  | .str x => some (.inr x)
  | _ => none
def keysE : List D → Option (List Key)
  | [] => some []
  | d :: ds => (keyE d).bind fun k => (keysE ds).map (k :: ·)
def keyOfD : D → Option (List Key)
  | .tuple (d :: ds) => keysE (d :: ds)
  | _ => none
theorem keyE_some {K : Fg} {Hz : Hp} {d : D} {k : Key} {v : V} (h : keyE d = some k) (r : Rep K Hz v d) : v = kV k ∧ d = keyD k := by
  cases r with
  | int i => cases h; exact ⟨rfl, rfl⟩
  | str x => cases h; exact ⟨rfl, rfl⟩
  | _ => cases h
theorem keysE_some {K : Fg} {Hz : Hp} : ∀ {ds : List D} {ks : List Key} {vs : List V}, keysE ds = some ks → RepL K Hz vs ds → vs = ks.map kV ∧ ds = ks.map keyD
  | [], ks, _, h, .nil => by cases h; exact ⟨rfl, rfl⟩
  | d :: ds, ks, _, h, .cons r t => by
    unfold keysE at h
    cases hd : keyE d with
    | none => rw [hd] at h; cases h
    | some k =>
      rw [hd] at h
      cases hs : keysE ds with
      | none => rw [hs] at h; cases h
      | some l =>
        rw [hs] at h
        cases h
        obtain ⟨e1, e2⟩ := keyE_some hd r
        obtain ⟨e3, e4⟩ := keysE_some hs t
        exact ⟨by rw [e1, e3]; rfl, by rw [e2, e4]; rfl⟩
theorem keyOf_some {K : Fg} {Hz : Hp} {d : D} {ks : List Key} {v : V} (h : keyOfD d = some ks) (r : Rep K Hz v d) : ∃ b, v = .ref b ∧ Hz b = some (.tup (ks.map kV)) ∧ d = keyT ks := by
  cases d with
  | tuple ds =>
    cases ds with
    | nil => cases h
    | cons d ds =>
      cases r with
      | @tup a xs _ h1 k1 ex =>
        obtain ⟨e1, e2⟩ := keysE_some h k1
        have ne : xs ≠ [] := fun w => by rw [w] at k1; cases k1
        refine ⟨a, rfl, ?_, by rw [e2]; rfl⟩
        rw [ex ne, e1]
  | _ => cases h
abbrev KS := Key ⊕ List Key
/-- a datum as a key of a dict -/
def kOf (d : D) : Option KS := match keyE d with
  | some k => some (.inl k)
  | none => (keyOfD d).map .inr
def sortK : KS → Bool
  | .inl _ => true
  | .inr _ => false
def sameK (c : KS) (ps : List (D × D)) : Bool := ps.all fun p => match kOf p.1 with
  | some c' => sortK c' == sortK c
  | none => false
def dget (ps : List (D × D)) (c : KS) : Option D := (ps.find? fun p => decide (kOf p.1 = some c)).map (·.2)
def dput (ps : List (D × D)) (x : D) (c : KS) (v : D) : List (D × D) := if ps.any (fun p => decide (kOf p.1 = some c)) = true then ps.map (fun p => if kOf p.1 = some c then (p.1, v) else p) else ps ++ [(x, v)]
theorem keyE_keyD (k : Key) : keyE (keyD k) = some k := by cases k <;> rfl
theorem kOf_D (k : Key) : kOf (keyD k) = some (.inl k) := by unfold kOf; rw [keyE_keyD]
theorem keysE_map : ∀ ks : List Key, keysE (ks.map keyD) = some ks
  | [] => rfl
  | k :: ks => by
    show (keyE (keyD k)).bind _ = _
    rw [keyE_keyD]
    show (keysE (ks.map keyD)).map _ = _
    rw [keysE_map ks]; rfl
theorem keyE_T (ks : List Key) : keyE (keyT ks) = none := rfl
theorem kOf_T {ks : List Key} (h : ks ≠ []) : kOf (keyT ks) = some (.inr ks) := by
  unfold kOf
  rw [keyE_T]
  cases ks with
  | nil => exact absurd rfl h
  | cons k ks =>
    have e : keyOfD (keyT (k :: ks)) = keysE ((k :: ks).map keyD) := rfl
    show (keyOfD _).map _ = _
    rw [e, keysE_map]; rfl
theorem kOf_T0 : kOf (keyT []) = none := rfl
theorem kOf_inl {K : Fg} {Hz : Hp} {d : D} {k : Key} {v : V} (h : kOf d = some (.inl k)) (r : Rep K Hz v d) : v = kV k ∧ d = keyD k := by
  unfold kOf at h
  cases e : keyE d with
  | none =>
    rw [e] at h
    cases e2 : keyOfD d with
    | none => rw [e2] at h; cases h
    | some l => rw [e2] at h; cases h
  | some k' => rw [e] at h; cases h; exact keyE_some e r
theorem kOf_inr {K : Fg} {Hz : Hp} {d : D} {ks : List Key} {v : V} (h : kOf d = some (.inr ks)) (r : Rep K Hz v d) : ∃ b, v = .ref b ∧ Hz b = some (.tup (ks.map kV)) ∧ d = keyT ks := by
  unfold kOf at h
  cases e : keyE d with
  | none =>
    rw [e] at h
    cases e2 : keyOfD d with
    | none => rw [e2] at h; cases h
    | some l => rw [e2] at h; cases h; exact keyOf_some e2 r
  | some k' => rw [e] at h; cases h
theorem kOf_inr_ne {d : D} {ks : List Key} (h : kOf d = some (.inr ks)) : ks ≠ [] := by
  unfold kOf at h
  cases e : keyE d with
  | some k' => rw [e] at h; cases h
  | none =>
    rw [e] at h
    intro w
    subst w
    cases d with
    | tuple ds =>
      cases ds with
      | nil => cases h
      | cons d ds =>
        have h : (keysE (d :: ds)).map Sum.inr = some (Sum.inr [] : KS) := h
        unfold keysE at h
        cases e1 : keyE d with
        | none => rw [e1] at h; cases h
        | some k =>
          rw [e1] at h
          cases e2 : keysE ds with
          | none => rw [e2] at h; cases h
          | some l => rw [e2] at h; cases h
    | _ => cases h
/-- what is found, both ways -/
def RelO2 (K : Fg) (Hz : Hp) (o : Option V) (x : Option D) : Prop := (∃ v d, o = some v ∧ x = some d ∧ Rep K Hz v d) ∨ (o = none ∧ x = none)
theorem dget_pos {p : D × D} {ps : List (D × D)} {c : KS} (h : kOf p.1 = some c) : dget (p :: ps) c = some p.2 := by unfold dget; rw [List.find?_cons, decide_eq_true h]; rfl
theorem dget_neg {p : D × D} {ps : List (D × D)} {c : KS} (h : ¬ kOf p.1 = some c) : dget (p :: ps) c = dget ps c := by unfold dget; rw [List.find?_cons, decide_eq_false h]
theorem dget_K {K : Fg} {Hz : Hp} (k : Key) : ∀ {kvs : List (Key × V)} {ps : List (D × D)}, RepP K Hz (kvs.map fun p => (keyD p.1, p.2)) ps → RelO2 K Hz (valV kvs k) (dget ps (.inl k))
  | [], [], .nil => .inr ⟨rfl, rfl⟩
  | (j, v) :: kvs, (x, d) :: ps, h => by
    cases h with
    | cons r t =>
      by_cases e : j = k
      · subst e
        exact .inl ⟨v, d, valV_pos rfl, dget_pos (kOf_D j), r⟩
      · rw [valV_neg (show ¬ (j, v).1 = k from e), dget_neg (show ¬ kOf (keyD j) = _ by rw [kOf_D]; exact fun w => e (by cases w; rfl))]
        exact dget_K k t
theorem dget_T {K : Fg} {Hz : Hp} (k : List Key) : ∀ {kvs : List (List Key × V)} {ps : List (D × D)}, RepP K Hz (kvs.map fun p => (keyT p.1, p.2)) ps → (∀ p ∈ kvs, p.1 ≠ []) → RelO2 K Hz (valV kvs k) (dget ps (.inr k))
  | [], [], .nil, _ => .inr ⟨rfl, rfl⟩
  | (j, v) :: kvs, (x, d) :: ps, h, hn => by
    have hj : j ≠ [] := hn (j, v) (List.mem_cons_self ..)
    cases h with
    | cons r t =>
      by_cases e : j = k
      · subst e
        exact .inl ⟨v, d, valV_pos rfl, dget_pos (kOf_T hj), r⟩
      · rw [valV_neg (show ¬ (j, v).1 = k from e), dget_neg (show ¬ kOf (keyT j) = _ by rw [kOf_T hj]; exact fun w => e (by cases w; rfl))]
        exact dget_T k t fun p hp => hn p (List.mem_cons_of_mem _ hp)
theorem any_K {K : Fg} {Hz : Hp} (k : Key) : ∀ {kvs : List (Key × V)} {ps : List (D × D)}, RepP K Hz (kvs.map fun p => (keyD p.1, p.2)) ps → (kvs.any fun p => decide (p.1 = k)) = ps.any fun p => decide (kOf p.1 = some (.inl k))
  | [], [], .nil => rfl
  | (j, v) :: kvs, (x, d) :: ps, h => by
    cases h with
    | cons r t =>
      rw [List.any_cons, List.any_cons, any_K k t]
      have e : decide (j = k) = decide (kOf (keyD j) = some (.inl k)) := by rw [kOf_D]; simp
      show (decide (j = k) || _) = (decide (kOf (keyD j) = some (.inl k)) || _)
      rw [e]
theorem any_T {K : Fg} {Hz : Hp} (k : List Key) : ∀ {kvs : List (List Key × V)} {ps : List (D × D)}, RepP K Hz (kvs.map fun p => (keyT p.1, p.2)) ps → (∀ p ∈ kvs, p.1 ≠ []) → (kvs.any fun p => decide (p.1 = k)) = ps.any fun p => decide (kOf p.1 = some (.inr k))
  | [], [], .nil, _ => rfl
  | (j, v) :: kvs, (x, d) :: ps, h, hn => by
    have hj : j ≠ [] := hn (j, v) (List.mem_cons_self ..)
    cases h with
    | cons r t =>
      rw [List.any_cons, List.any_cons, any_T k t fun p hp => hn p (List.mem_cons_of_mem _ hp)]
      have e : decide (j = k) = decide (kOf (keyT j) = some (.inr k)) := by rw [kOf_T hj]; simp
      show (decide (j = k) || _) = (decide (kOf (keyT j) = some (.inr k)) || _)
      rw [e]
theorem RepP.append {K : Fg} {Hz : Hp} : ∀ {vs ws : List (D × V)} {ds es : List (D × D)}, RepP K Hz vs ds → RepP K Hz ws es → RepP K Hz (vs ++ ws) (ds ++ es)
  | [], _, [], _, .nil, h => h
  | _ :: _, _, _ :: _, _, .cons r t, h => .cons r (RepP.append t h)
theorem map_K {K : Fg} {Hz : Hp} (k : Key) {y : V} {z : D} (ry : Rep K Hz y z) : ∀ {kvs : List (Key × V)} {ps : List (D × D)}, RepP K Hz (kvs.map fun p => (keyD p.1, p.2)) ps →
    RepP K Hz ((kvs.map fun p => if p.1 = k then (p.1, y) else p).map fun p => (keyD p.1, p.2)) (ps.map fun p => if kOf p.1 = some (.inl k) then (p.1, z) else p)
  | [], [], .nil => .nil
  | (j, v) :: kvs, (x, d) :: ps, h => by
    cases h with
    | cons r t =>
      rw [List.map_cons, List.map_cons, List.map_cons]
      by_cases e : j = k
      · subst e
        rw [if_pos (show (j, v).1 = j from rfl), if_pos (show kOf (keyD j, d).1 = _ from kOf_D j)]
        exact .cons ry (map_K j ry t)
      · rw [if_neg (show ¬ (j, v).1 = k from e), if_neg (show ¬ kOf (keyD j, d).1 = some (.inl k) by rw [show (keyD j, d).1 = keyD j from rfl, kOf_D]; exact fun w => e (by cases w; rfl))]
        exact .cons r (map_K k ry t)
theorem map_T {K : Fg} {Hz : Hp} (k : List Key) {y : V} {z : D} (ry : Rep K Hz y z) : ∀ {kvs : List (List Key × V)} {ps : List (D × D)}, RepP K Hz (kvs.map fun p => (keyT p.1, p.2)) ps → (∀ p ∈ kvs, p.1 ≠ []) →
    RepP K Hz ((kvs.map fun p => if p.1 = k then (p.1, y) else p).map fun p => (keyT p.1, p.2)) (ps.map fun p => if kOf p.1 = some (.inr k) then (p.1, z) else p)
  | [], [], .nil, _ => .nil
  | (j, v) :: kvs, (x, d) :: ps, h, hn => by
    have hj : j ≠ [] := hn (j, v) (List.mem_cons_self ..)
    have hn' : ∀ p ∈ kvs, p.1 ≠ [] := fun p hp => hn p (List.mem_cons_of_mem _ hp)
    cases h with
    | cons r t =>
      rw [List.map_cons, List.map_cons, List.map_cons]
      by_cases e : j = k
      · subst e
        rw [if_pos (show (j, v).1 = j from rfl), if_pos (show kOf (keyT j, d).1 = _ from kOf_T hj)]
        exact .cons ry (map_T j ry t hn')
      · rw [if_neg (show ¬ (j, v).1 = k from e), if_neg (show ¬ kOf (keyT j, d).1 = some (.inr k) by rw [show (keyT j, d).1 = keyT j from rfl, kOf_T hj]; exact fun w => e (by cases w; rfl))]
        exact .cons r (map_T k ry t hn')
theorem dput_K {K : Fg} {Hz : Hp} {k : Key} {y : V} {z : D} (ry : Rep K Hz y z) {kvs : List (Key × V)} {ps : List (D × D)} (h : RepP K Hz (kvs.map fun p => (keyD p.1, p.2)) ps) :
    RepP K Hz ((putK kvs k y).map fun p => (keyD p.1, p.2)) (dput ps (keyD k) (.inl k) z) := by
  unfold putK dput
  rw [any_K k h]
  by_cases e : (ps.any fun p => decide (kOf p.1 = some (.inl k))) = true
  · rw [if_pos e, if_pos e]; exact map_K k ry h
  · rw [if_neg e, if_neg e, List.map_append]; exact h.append (.cons ry .nil)
theorem dput_T {K : Fg} {Hz : Hp} {k : List Key} {y : V} {z : D} (ry : Rep K Hz y z) {kvs : List (List Key × V)} {ps : List (D × D)} (h : RepP K Hz (kvs.map fun p => (keyT p.1, p.2)) ps) (hn : ∀ p ∈ kvs, p.1 ≠ []) :
    RepP K Hz ((putK kvs k y).map fun p => (keyT p.1, p.2)) (dput ps (keyT k) (.inr k) z) := by
  unfold putK dput
  rw [any_T k h hn]
  by_cases e : (ps.any fun p => decide (kOf p.1 = some (.inr k))) = true
  · rw [if_pos e, if_pos e]; exact map_T k ry h hn
  · rw [if_neg e, if_neg e, List.map_append]; exact h.append (.cons ry .nil)
theorem same_K {K : Fg} {Hz : Hp} {ks : List Key} : ∀ {kvs : List (Key × V)} {ps : List (D × D)}, RepP K Hz (kvs.map fun p => (keyD p.1, p.2)) ps → sameK (.inr ks) ps = true → kvs = [] ∧ ps = []
  | [], [], .nil, _ => ⟨rfl, rfl⟩
  | (j, v) :: kvs, (x, d) :: ps, h, hs => by
    cases h with
    | cons r t =>
      unfold sameK at hs
      rw [List.all_cons, show kOf ((keyD j, d) : D × D).1 = some (.inl j) from kOf_D j] at hs
      cases hs
theorem same_T {K : Fg} {Hz : Hp} {k : Key} : ∀ {kvs : List (List Key × V)} {ps : List (D × D)}, RepP K Hz (kvs.map fun p => (keyT p.1, p.2)) ps → sameK (.inl k) ps = true → kvs = [] ∧ ps = []
  | [], [], .nil, _ => ⟨rfl, rfl⟩
  | (j, v) :: kvs, (x, d) :: ps, h, hs => by
    cases h with
    | cons r t =>
      unfold sameK at hs
      rw [List.all_cons] at hs
      by_cases hj : j = []
      · subst hj
        cases hs
      · rw [show kOf ((keyT j, d) : D × D).1 = some (.inr j) from kOf_T hj] at hs
        cases hs
theorem same_Tn {K : Fg} {Hz : Hp} {ks : List Key} : ∀ {kvs : List (List Key × V)} {ps : List (D × D)}, RepP K Hz (kvs.map fun p => (keyT p.1, p.2)) ps → sameK (.inr ks) ps = true → ∀ p ∈ kvs, p.1 ≠ []
  | [], [], .nil, _, p, hp => by cases hp
  | (j, v) :: kvs, (x, d) :: ps, h, hs, p, hp => by
    cases h with
    | cons r t =>
      unfold sameK at hs
      rw [List.all_cons, Bool.and_eq_true] at hs
      rcases List.mem_cons.mp hp with e | hp
      · subst e
        intro w
        have w : j = [] := w
        subst w
        cases hs.1
      · exact same_Tn t hs.2 p hp
/-- what the dict at a holds at y; an empty one nothing -/
def DG (H : Hp) (a : Addr) (y : V) (o : Option V) : Prop :=
  DGet H a y o ∨ (o = none ∧ ((Rd H a (.dK []) ∧ ∃ (b : Addr) (ks : List Key), y = .ref b ∧ H b = some (.tup (ks.map kV))) ∨ (Rd H a (.dT []) ∧ ∃ k : Key, y = kV k)))
theorem dg_of {K : Fg} {Hz H : Hp} {x y : V} {ps : List (D × D)} {d : D} {c : KS} (hs : Same Hz H) (r : Rep K Hz x (.dict ps)) (ry : Rep K Hz y d) (hc : kOf d = some c) (hk : sameK c ps = true) :
    ∃ a o, x = .ref a ∧ IsD H a ∧ DG H a y o ∧ RelO2 K Hz o (dget ps c) := by
  cases r with
  | @dK a kvs _ h k =>
    have h := rd_same hs h
    cases c with
    | inl kx =>
      obtain ⟨rfl, rfl⟩ := kOf_inl hc ry
      exact ⟨a, _, rfl, .inl ⟨_, h⟩, .inl (.inl ⟨kvs, kx, h, rfl, rfl⟩), dget_K kx k⟩
    | inr ks =>
      obtain ⟨b, rfl, eb, rfl⟩ := kOf_inr hc ry
      obtain ⟨rfl, rfl⟩ := same_K k hk
      exact ⟨a, none, rfl, .inl ⟨_, h⟩, .inr ⟨rfl, .inl ⟨h, b, ks, rfl, hs _ _ eb⟩⟩, .inr ⟨rfl, rfl⟩⟩
  | @dT a kvs _ h k =>
    have h := rd_same hs h
    cases c with
    | inl kx =>
      obtain ⟨rfl, rfl⟩ := kOf_inl hc ry
      obtain ⟨rfl, rfl⟩ := same_T k hk
      exact ⟨a, none, rfl, .inr ⟨_, h⟩, .inr ⟨rfl, .inr ⟨h, kx, rfl⟩⟩, .inr ⟨rfl, rfl⟩⟩
    | inr ks =>
      obtain ⟨b, rfl, eb, rfl⟩ := kOf_inr hc ry
      exact ⟨a, _, rfl, .inr ⟨_, h⟩, .inl (.inr ⟨kvs, ks, b, h, rfl, hs _ _ eb, rfl⟩), dget_T ks k (same_Tn k hk)⟩
section
variable {X : Cx} {pins : List (Addr × Obj)} {σ : L2.St} {H : Hp} {s : Shared} {a : Addr} {y d : V} {u r : Value} {o : Option V} {A : Around} {E : Value → Shared → Prop}
theorem e_asT {P : Program} {w : World} {h : Heap} {a : Addr} (dd : h.DictOf (mixKind P w) a []) : h.DictOfH (tupleKind (mixKind P w)) a [] := by
  obtain ⟨o, es, ep, h1, h2, h3, h4, h5, h6⟩ := dd
  refine ⟨o, es, ep, h1, h2, h3, ?_, fun x hx => (nomatch hx), List.nodup_nil⟩
  generalize es.toList = l at h5
  cases h5; rfl
theorem e_asK {P : Program} {w : World} {h : Heap} {a : Addr} (dd : h.DictOfH (tupleKind (mixKind P w)) a []) : h.DictOf (mixKind P w) a [] := by
  obtain ⟨o, es, ep, h1, h2, h3, h4, h5, h6⟩ := dd
  have h4 : es.toList = [] := h4
  refine ⟨o, es, ep, h1, h2, h3, fun e he => ?_, ?_, List.nodup_nil⟩
  · have he' : e ∈ es.toList := by simpa using he
    rw [h4] at he'; cases he'
  · rw [h4]; constructor
theorem dk0 {P : Program} {w : World} {h : Heap} (ok : HOk P w H h) (e : Rd H a (.dK [])) : (a == sysModules) = false ∧ h.DictOf (mixKind P w) a [] := by
  obtain ⟨_, hd, vs, rel, dd⟩ := dk_rd ok e
  cases rel
  exact ⟨hd, dd⟩
theorem dt0 {P : Program} {w : World} {h : Heap} (ok : HOk P w H h) (e : Rd H a (.dT [])) : (a == sysModules) = false ∧ h.DictOfH (tupleKind (mixKind P w)) a [] := by
  obtain ⟨_, hd, vs, rel, dd⟩ := dt_rd ok e
  cases rel
  exact ⟨hd, dd⟩
theorem g_in {Q : Value → Shared → Prop} (hu : A.units + 1 < cLine) (I : Inv X pins σ H s) (g : DG H a y o) (ry : RelV y u) (h : ∀ s', Inv X pins σ H s' → Q (.bool o.isSome) s') :
    wpAny (model X.prog X.w) A (compareOp .In u (.ref a)) Q E s := by
  rcases g with g | ⟨rfl, ⟨e, b, ks, rfl, eb⟩ | ⟨e, k, rfl⟩⟩
  · exact d_in hu I g ry h
  · cases (show u = Value.ref b from ry)
    obtain ⟨hd, dd⟩ := dk0 I.hok e
    exact wpAny_in_heap (tupleKind_room_in1 hu) (key_of I.hok eb) hd (e_asT dd) (h _ (I.tok _))
  · obtain ⟨hd, dd⟩ := dt0 I.hok e
    exact wpAny_in_of (kV_is ry) hd (e_asK dd).mapOf (h _ (I.tok _))
theorem g_notIn {Q : Value → Shared → Prop} (hu : A.units + 1 < cLine) (I : Inv X pins σ H s) (g : DG H a y o) (ry : RelV y u) (h : ∀ s', Inv X pins σ H s' → Q (.bool (!o.isSome)) s') :
    wpAny (model X.prog X.w) A (compareOp .NotIn u (.ref a)) Q E s := by
  rcases g with g | ⟨rfl, ⟨e, b, ks, rfl, eb⟩ | ⟨e, k, rfl⟩⟩
  · exact d_notIn hu I g ry h
  · cases (show u = Value.ref b from ry)
    obtain ⟨hd, dd⟩ := dk0 I.hok e
    exact wpAny_notIn_heap (tupleKind_room_in1 hu) (key_of I.hok eb) hd (e_asT dd) (h _ (I.tok _))
  · obtain ⟨hd, dd⟩ := dt0 I.hok e
    exact wpAny_notIn_of (kV_is ry) hd (e_asK dd).mapOf (h _ (I.tok _))
theorem g_get1 {Q : Value → Shared → Prop} (hu : A.units + 1 < cLine) (I : Inv X pins σ H s) (g : DG H a y o) (ry : RelV y u) (h : ∀ w' s', Inv X pins σ H s' → RelV (o.getD .non) w' → Q w' s') :
    wpAny (model X.prog X.w) A (call (.builtin "dict.get") [.ref a, u]) Q E s := by
  rcases g with g | ⟨rfl, ⟨e, b, ks, rfl, eb⟩ | ⟨e, k, rfl⟩⟩
  · exact d_get1 hu I g ry h
  · cases (show u = Value.ref b from ry)
    obtain ⟨hd, dd⟩ := dk0 I.hok e
    exact call_meetsIn PySem.F.slot_dict_get dd.typeIs PySem.F.entry_dict_get (PySem.F.args_dict_get_2 _ _) (meetsH_dict_get (tupleKind (mixKind X.prog X.w)) a b hd) ⟨tupleKind_room_in1 hu, ks, [], key_of I.hok eb, e_asT dd, h _ _ (I.tok _) rfl⟩
  · obtain ⟨hd, dd⟩ := dt0 I.hok e
    exact call_meetsIn PySem.F.slot_dict_get dd.typeIs PySem.F.entry_dict_get (PySem.F.args_dict_get_2 _ _) (meets_dict_get (mixKind X.prog X.w) a (kV_is ry) hd) ⟨_, (e_asK dd).mapOf, h _ _ (I.tok _) rfl⟩
theorem g_get2 {Q : Value → Shared → Prop} (hu : A.units + 1 < cLine) (I : Inv X pins σ H s) (g : DG H a y o) (ry : RelV y u) (rd : RelV d r) (h : ∀ w' s', Inv X pins σ H s' → RelV (o.getD d) w' → Q w' s') :
    wpAny (model X.prog X.w) A (call (.builtin "dict.get") [.ref a, u, r]) Q E s := by
  rcases g with g | ⟨rfl, ⟨e, b, ks, rfl, eb⟩ | ⟨e, k, rfl⟩⟩
  · exact d_get2 hu I g ry rd h
  · cases (show u = Value.ref b from ry)
    obtain ⟨hd, dd⟩ := dk0 I.hok e
    exact call_meetsIn PySem.F.slot_dict_get dd.typeIs PySem.F.entry_dict_get (PySem.F.args_dict_get_3 _ _ _) (meetsH_dict_get_default (tupleKind (mixKind X.prog X.w)) a b hd r) ⟨tupleKind_room_in1 hu, ks, [], key_of I.hok eb, e_asT dd, h _ _ (I.tok _) rd⟩
  · obtain ⟨hd, dd⟩ := dt0 I.hok e
    exact call_meetsIn PySem.F.slot_dict_get dd.typeIs PySem.F.entry_dict_get (PySem.F.args_dict_get_3 _ _ _) (meets_dict_get_default (mixKind X.prog X.w) a (kV_is ry) hd r) ⟨_, (e_asK dd).mapOf, h _ _ (I.tok _) rd⟩
end
end FK

set_option Elab.async false
set_option linter.all false
set_option maxRecDepth 100000
/-! FK 11: operators on data. -/
namespace PySem.SeqAt
open AutoSeq1 (wpAny_loadPart')
open MeetsSeq
theorem str_eq_declines_dict (b : Str) (u : Tok) (l : Addr) (c : Value) (es : Array DictEntry) (n : Nat) (dd : Option Addr) (sl : Array (Option Value)) :
    Meets (Builtin.«str.__eq__» ⟨[.str b u, .ref l], []⟩) (fun _ R s => s.heap.get? l = some { cls := c, dict := dd, data := .dict es n, slots := sl } ∧ R (.ok (.ret .notImplemented)) s) :=
  .of_wp fun prog w A R s h => by obtain ⟨hp, g, d, tk, os⟩ := s; obtain ⟨hl, h⟩ := h; wp_walk using wpAny_loadPart' hl, wpAny_load hl; exact ⟨_, rfl, h⟩
end PySem.SeqAt
namespace FK
open PySem PySem.Spec PyProof.Rows L2
open PySem.W (alike dataLt)

mutual
theorem Rep.dp {K : Fg} {H : Hp} : ∀ {v : V} {d : D}, Rep K H v d → d.canLay0 = true → Dp K H v d
  | _, _, .non, _ => .non
  | _, _, .bl b, _ => .bl b
  | _, _, .int i, _ => .int i
  | _, _, .str x, _ => .str x
  | _, _, .lst h r, p => .lst h (RepL.dp r (by simpa [PyData.canLay0] using p))
  | _, _, .tup h r _, p => .tup h (RepL.dp r (by simpa [PyData.canLay0] using p))
  | _, _, .dK h r, p => by simp [PyData.canLay0] at p
  | _, _, .dT h r, p => by simp [PyData.canLay0] at p
theorem RepL.dp {K : Fg} {H : Hp} : ∀ {vs : List V} {ds : List D}, RepL K H vs ds → PyData.canLayAll0 ds = true → DpAll K H vs ds
  | _, _, .nil, _ => .nil
  | _, _, .cons r t, p => by
    rw [PyData.canLayAll0, Bool.and_eq_true] at p
    exact .cons (Rep.dp r p.1) (RepL.dp t p.2)
end
/-- no dict within -/
def okEq (d : D) : Bool := SeqAt.shaped d
/-- a tuple and an empty one -/
def empT (d e : D) : Option Bool := match d, e with
  | .tuple ds, .tuple [] => some ds.isEmpty
  | .list ds, .list [] => some ds.isEmpty
  | _, _ => none
/-- a list and one of the same data, empty dicts among them -/
def SelfX (d e : D) : Prop := ∃ ds, d = .list ds ∧ e = .list ds ∧ ∀ x ∈ ds, okEq x = true ∨ x = .dict []
open Classical in
noncomputable def empX (d e : D) : Option Bool := match empT d e with
  | some b => some b
  | none => if SelfX d e then some true else none
noncomputable def gEq (d e : D) : Option B := if okEq d = true ∧ okEq e = true then some (.fr (.bool (PyData.eqv d e))) else (empX d e).map fun b => .fr (.bool b)
def gNe (d e : D) : Option B := if okEq d = true ∧ okEq e = true then some (.fr (.bool (!PyData.eqv d e))) else (empT d e).map fun b => .fr (.bool (!b))
def okLt (d e : D) : Bool := alike d e && (match d with | .none => false | _ => true) && okEq d
def gLt (d e : D) : Option B := if okLt d e = true ∧ okEq e = true then some (.fr (.bool (dataLt d e))) else none
def gGt (d e : D) : Option B := if okLt d e = true ∧ okEq e = true then some (.fr (.bool (dataLt e d))) else none
def gLe (d e : D) : Option B := if okLt d e = true ∧ okEq e = true then some (.fr (.bool (!dataLt e d))) else none
def gGe (d e : D) : Option B := if okLt d e = true ∧ okEq e = true then some (.fr (.bool (!dataLt d e))) else none
def isSign (x : Str) : Bool := x.cps.size == 1
/-- a dict, a list, a tuple, whatever is within, in a list of texts -/
def boxD : D → Bool
  | .dict _ => true
  | .list _ => true
  | .tuple _ => true
  | _ => false
def dictIn (x : D) (ds : List D) : Bool := boxD x && ds.all fun d => match d with | .str _ => true | _ => false
def inD (x c : D) : Option Bool := match c with
  | .list ds => if okEq x = true ∧ okEq c = true then some (ds.any fun z => PyData.eqv z x) else if dictIn x ds = true then some false else none
  | .tuple ds => if okEq x = true ∧ okEq c = true then some (ds.any fun z => PyData.eqv z x) else none
  | .str z => (match x with
    | .str y => if isSign y = true then some (decide (y.cps.getD 0 0 ∈ z.cps.toList)) else none
    | _ => none)
  | .dict ps => (match kOf x with
    | some c => if sameK c ps = true then some (dget ps c).isSome else none
    | none => none)
  | _ => none
def gIn (x c : D) : Option B := (inD x c).map fun b => .fr (.bool b)
def gNotIn (x c : D) : Option B := (inD x c).map fun b => .fr (.bool (!b))
def isNoneD : D → Bool
  | .none => true
  | _ => false
def isD (x c : D) : Option Bool := match c with
  | .none => some (isNoneD x)
  | .bool b => (match x with
    | .bool a => some (decide (a = b))
    | _ => none)
  | _ => none
def gIs (x c : D) : Option B := (isD x c).map fun b => .fr (.bool b)
def gIsNot (x c : D) : Option B := (isD x c).map fun b => .fr (.bool (!b))
def gAdd (d e : D) : Option B := match d, e with
  | .int i, .int j => some (.fr (.int (i + j)))
  | .bool i, .int j => some (.fr (.int ((if i = true then 1 else 0) + j)))
  | .str x, .str y => if x.length + y.length ≤ sizeLine then some (.fr (.str (x ++ y))) else none
  | .list ds, .list es => if ds.length + es.length ≤ sizeLine then some (.ow (.list (ds ++ es))) else none
  | .tuple ds, .tuple es => if ds.length + es.length ≤ sizeLine then some (.fr (.tuple (ds ++ es))) else none
  | _, _ => none
def gSub (d e : D) : Option B := match d, e with
  | .int i, .int j => some (.fr (.int (i - j)))
  | .bool i, .int j => some (.fr (.int ((if i = true then 1 else 0) - j)))
  | .int i, .bool j => some (.fr (.int (i - if j = true then 1 else 0)))
  | _, _ => none
def strMul (x : Str) (n : Int) : Str := ⟨(List.replicate n.toNat x.cps.toList).flatten.toArray⟩
def gMul (d e : D) : Option B := match d, e with
  | .int i, .int j => if i.natAbs.log2 + j.natAbs.log2 < 1000000 then some (.fr (.int (i * j))) else none
  | .str x, .int n => if 2 ≤ n ∧ n ≤ 1000 ∧ 0 < x.length ∧ x.length ≤ 1000 then some (.fr (.str (strMul x n))) else if 2 ≤ n ∧ n ≤ 1000 ∧ x.length = 0 then some (.fr (.str x)) else none
  | _, _ => none
def gFdiv (d e : D) : Option B := match d, e with
  | .int i, .int j => if 0 < j ∧ j.natAbs.log2 < 9000 then some (.fr (.int (i / j))) else none
  | _, _ => none
def gMod (d e : D) : Option B := match d, e with
  | .int i, .int j => if 0 < j then some (.fr (.int (i % j))) else none
  | _, _ => none
def gPow (d e : D) : Option B := match d, e with
  | .int i, .int j => if 0 ≤ j ∧ (Builtin.Int.intBits i : Int) * j ≤ 2 ^ 27 then some (.fr (.int (i ^ j.toNat))) else none
  | _, _ => none
section
variable {X : Cx}
theorem int_of {K : Fg} {H : Hp} {v : V} {i : Int} (r : Rep K H v (.int i)) : v = .int i := by cases r; rfl
theorem str_of {K : Fg} {H : Hp} {v : V} {i : Str} (r : Rep K H v (.str i)) : v = .str i := by cases r; rfl
theorem rep_reads {pins : List (Addr × Obj)} {σ : L2.St} {Hz H : Hp} {s : Shared} {v : V} {u : Value} {d : D} (I : Inv X pins σ H s) (hs : Same Hz H) (r : Rep X.K Hz v d) (h : okEq d = true) (ru : RelV v u) : ∃ as, Reads s.heap u d as :=
  Dp.reads I d v u ((r.mono hs).dp (SeqAt.canLay_of_shaped h)) ru
theorem new_val {K : Fg} {Hz H : Hp} {v : V} {d : D} (hs : Same Hz H) (r : Rep K Hz v d) : New K Hz H (.fr d) v H := .here hs r
theorem empT_some {d e : D} {k : Bool} (h : empT d e = some k) : (∃ ds, d = .tuple ds ∧ e = .tuple [] ∧ k = ds.isEmpty) ∨ ∃ ds, d = .list ds ∧ e = .list [] ∧ k = ds.isEmpty := by
  unfold empT at h
  split at h
  · cases h; exact .inl ⟨_, rfl, rfl, rfl⟩
  · cases h; exact .inr ⟨_, rfl, rfl, rfl⟩
  · cases h
theorem empX_some {d e : D} {k : Bool} (h : empX d e = some k) : empT d e = some k ∨ (SelfX d e ∧ k = true) := by
  unfold empX at h
  split at h
  · rename_i b hb; cases h; exact .inl hb
  · split at h
    · rename_i hx; cases h; exact .inr ⟨hx, rfl⟩
    · cases h
theorem vals_get : ∀ {vs : List V} {us : List Value} {j : Nat} {u : Value}, Vals vs us → us[j]? = some u → ∃ v, vs[j]? = some v ∧ RelV v u
  | _, _, _, _, .nil, e => by simp at e
  | _, _, 0, u, .cons r _, e => by simp at e; subst e; exact ⟨_, rfl, r⟩
  | _, _, j + 1, u, .cons _ t, e => by
    obtain ⟨v, h1, h2⟩ := vals_get (j := j) (u := u) t (by simpa using e)
    exact ⟨v, by simpa using h1, h2⟩
theorem dict0 {pins : List (Addr × Obj)} {σ : L2.St} {Hz H : Hp} {s : Shared} {v : V} (I : Inv X pins σ H s) (hs : Same Hz H) (r : Rep X.K Hz v (.dict [])) : ∃ a, v = .ref a ∧ (a == sysModules) = false ∧ s.heap.DictOf (mixKind X.prog X.w) a [] := by
  cases r with
  | @dK a kvs _ h k =>
    cases kvs with
    | nil =>
      obtain ⟨_, hd, vs, rel, dd⟩ := dk_rd I.hok (rd_same hs h)
      cases rel
      exact ⟨a, rfl, hd, dd⟩
    | cons _ _ => cases k
  | @dT a kvs _ h k =>
    cases kvs with
    | nil =>
      obtain ⟨_, hd, xs, rel, o, es, ep, h1, h2, h3, h4, _, _⟩ := dt_rd I.hok (rd_same hs h)
      cases rel
      refine ⟨a, rfl, hd, o, es, ep, h1, h2, h3, ?_, ?_, List.nodup_nil⟩
      · intro e he
        have : es.toList = [] := h4
        have he' : e ∈ es.toList := by simpa using he
        rw [this] at he'; cases he'
      · rw [show es.toList = [] from h4]; constructor
    | cons _ _ => cases k
/-- one thing beside itself, made anew or not -/
theorem eqP_x {pins : List (Addr × Obj)} {σ : L2.St} {Hz H : Hp} {s : Shared} {x y : V} {v u : Value} {d : D} {A : Around} (I : Inv X pins σ H s) (hs : Same Hz H) (h : okEq d = true ∨ d = .dict []) (r1 : Rep X.K Hz x d) (r2 : Rep X.K Hz y d) (rx : RelV x v) (ry : RelV y u) (hu : A.units + 64 < cLine) :
    SeqAt.EqP X.prog X.w A s v u true := by
  rcases h with h | h
  · obtain ⟨as, h1⟩ := rep_reads I hs r1 h rx
    obtain ⟨bs, h2⟩ := rep_reads I hs r2 h ry
    have q := SeqAt.eqAt_reads d d A s v u as bs h1 h2 (SeqAt.canLay_of_shaped h) (SeqAt.canLay_of_shaped h) (SeqAt.room_of_shaped h hu)
    rw [SeqAt.eqv_refl _ (SeqAt.canLay_of_shaped h)] at q
    exact q.eqP
  · subst h
    obtain ⟨a, rfl, ya, da⟩ := dict0 I hs r1
    obtain ⟨b, rfl, yb, db⟩ := dict0 I hs r2
    cases (show v = Value.ref a from rx)
    cases (show u = Value.ref b from ry)
    by_cases e : a = b
    · subst e; exact (SeqAt.EqAt.same _).eqP
    · refine SeqAt.eqP_refs e fun E Q q => PySem.W.rcP_dicts (knd := mixKind X.prog X.w) (r := true) ya yb da db (by omega) (fun _ => .nil) E Q ?_
      exact q
theorem o_eq (hu : X.A.units + 66 < cLine) : OpR X (compareOp .Eq) (rOf X.K gEq) := by
  intro pins s σ H x y v u Q I rx ry ⟨Hz, d, e, b, hs, r1, r2, hg, q⟩
  unfold gEq at hg
  split at hg
  · rename_i h
    cases hg
    obtain ⟨as, h1⟩ := rep_reads I hs r1 h.1 rx
    obtain ⟨bs, h2⟩ := rep_reads I hs r2 h.2 ry
    exact SeqAt.compareEq_shaped h1 h2 h.1 h.2 (by omega) ⟨.bl _, H, I, rfl, q _ _ (.here hs (.bl _))⟩
  · obtain ⟨k, hk, hb⟩ := Option.map_eq_some_iff.mp hg
    subst hb
    rcases empX_some hk with hk | ⟨⟨ds, rfl, rfl, hd⟩, rfl⟩
    rotate_left
    · cases r1 with
      | @lst l xs _ t1 k1 =>
        cases r2 with
        | @lst l2 ys _ t2 k2 =>
          cases (show v = Value.ref l from rx)
          cases (show u = Value.ref l2 from ry)
          obtain ⟨its, v1, p1, z1⟩ := I.list (sqL_same hs t1)
          obtain ⟨its2, v2, p2, z2⟩ := I.list (sqL_same hs t2)
          have hsz : its.toArray.size = its2.toArray.size := by
            rw [List.size_toArray, List.size_toArray, ← v1.length, ← v2.length, k1.length, k2.length]
          refine SeqAt.rcP_lists (A := X.A) (e := fun _ => true) p1.isList p2.isList hsz (by omega) (fun j h1 h2 => ?_) _ _ ?_
          · have q1 : j < its.length := by simpa using h1
            have q2 : j < its2.length := by simpa using h2
            obtain ⟨x1, e1, f1⟩ := vals_get v1 (List.getElem?_eq_getElem q1)
            obtain ⟨x2, e2, f2⟩ := vals_get v2 (List.getElem?_eq_getElem q2)
            obtain ⟨d1, g1, g2⟩ := k1.get e1
            obtain ⟨d2, g3, g4⟩ := k2.get e2
            rw [g1] at g3
            cases g3
            have := eqP_x (A := X.A.in1) I hs (hd d1 (List.mem_of_getElem? g1)) g2 g4 f1 f2 (by show X.A.units + 1 + 64 < cLine; omega)
            simpa using this
          · rw [show ((List.range its.toArray.size).all fun _ => true) = true from List.all_eq_true.mpr fun _ _ => rfl]
            exact ⟨.bl _, H, I, rfl, q _ _ (.here hs (.bl _))⟩
    rcases empT_some hk with ⟨ds, rfl, rfl, rfl⟩ | ⟨ds, rfl, rfl, rfl⟩
    rotate_left
    · cases r1 with
      | @lst l xs _ t1 k1 =>
        cases r2 with
        | @lst l2 ys _ t2 k2 =>
          cases rx; cases ry
          obtain ⟨its, v1, p1, z1⟩ := I.list (sqL_same hs t1)
          obtain ⟨its2, v2, p2, z2⟩ := I.list (sqL_same hs t2)
          cases k2
          cases v2
          have l1 := v1.length
          have l2 := k1.length
          cases ds with
          | nil =>
            have e : its = [] := List.length_eq_zero_iff.mp (by simp only [List.length_nil] at l2; omega)
            subst e
            refine SeqAt.eq_listAt (e := fun _ => true) p1.isList p2.isList rfl (by omega) (fun j h1 h2 => absurd h2 (Nat.not_lt_zero _)) ?_
            exact ⟨.bl _, H, I, rfl, q _ _ (.here hs (.bl _))⟩
          | cons d0 ds =>
            have e : (its.toArray.size != ([] : List Value).toArray.size) = true := by
              simp only [List.length_cons] at l2
              rw [List.size_toArray, bne_iff_ne]
              show its.length ≠ 0
              omega
            refine SeqAt.eq_list_lengthsAt p1.isList p2.isList e (by omega) ?_
            exact ⟨.bl _, H, I, rfl, q _ _ (.here hs (.bl _))⟩
    cases r1 with
    | @tup l xs _ t1 k1 =>
      cases r2 with
      | @tup l2 ys _ t2 k2 =>
        cases rx; cases ry
        obtain ⟨its, v1, p1, z1⟩ := I.tuple (seqT_same hs t1)
        obtain ⟨its2, v2, p2, z2⟩ := I.tuple (seqT_same hs t2)
        cases k2
        cases v2
        have l1 := v1.length
        have l2 := k1.length
        refine SeqAt.eq_tupleAt (e := fun _ => true) p1 p2 (by omega) (fun j h1 h2 => absurd h2 (Nat.not_lt_zero _)) ?_
        have e : ((List.range (min its.toArray.size ([] : List Value).toArray.size)).all (fun _ => true) && its.toArray.size == ([] : List Value).toArray.size) = ds.isEmpty := by
          cases ds with
          | nil => cases its with
            | nil => rfl
            | cons _ _ => simp only [List.length_nil, List.length_cons] at l1 l2; omega
          | cons _ _ => cases its with
            | nil => simp only [List.length_nil, List.length_cons] at l1 l2; omega
            | cons _ _ => simp
        rw [e]
        exact ⟨.bl _, H, I, rfl, q _ _ (.here hs (.bl _))⟩
theorem o_ne (hu : X.A.units + 66 < cLine) : OpR X (compareOp .NotEq) (rOf X.K gNe) := by
  intro pins s σ H x y v u Q I rx ry ⟨Hz, d, e, b, hs, r1, r2, hg, q⟩
  unfold gNe at hg
  split at hg
  · rename_i h
    cases hg
    obtain ⟨as, h1⟩ := rep_reads I hs r1 h.1 rx
    obtain ⟨bs, h2⟩ := rep_reads I hs r2 h.2 ry
    exact SeqAt.compareNe_shaped h1 h2 h.1 h.2 (by omega) ⟨.bl _, H, I, rfl, q _ _ (.here hs (.bl _))⟩
  · obtain ⟨k, hk, hb⟩ := Option.map_eq_some_iff.mp hg
    subst hb
    rcases empT_some hk with ⟨ds, rfl, rfl, rfl⟩ | ⟨ds, rfl, rfl, rfl⟩
    rotate_left
    · cases r1 with
      | @lst l xs _ t1 k1 =>
        cases r2 with
        | @lst l2 ys _ t2 k2 =>
          cases rx; cases ry
          obtain ⟨its, v1, p1, z1⟩ := I.list (sqL_same hs t1)
          obtain ⟨its2, v2, p2, z2⟩ := I.list (sqL_same hs t2)
          cases k2
          cases v2
          have l1 := v1.length
          have l2 := k1.length
          cases ds with
          | nil =>
            have e : its = [] := List.length_eq_zero_iff.mp (by simp only [List.length_nil] at l2; omega)
            subst e
            refine SeqAt.RcNeAt.lists (e := fun _ => true) p1.isList p2.isList rfl (by omega) (fun j h1 h2 => absurd h2 (Nat.not_lt_zero _)) X.prog X.w _ _ ?_
            exact ⟨.bl _, H, I, rfl, q _ _ (.here hs (.bl _))⟩
          | cons d0 ds =>
            have e : (its.toArray.size != ([] : List Value).toArray.size) = true := by
              simp only [List.length_cons] at l2
              rw [List.size_toArray, bne_iff_ne]
              show its.length ≠ 0
              omega
            refine SeqAt.RcNeAt.lists_lengths p1.isList p2.isList e (by omega) X.prog X.w _ _ ?_
            exact ⟨.bl _, H, I, rfl, q _ _ (.here hs (.bl _))⟩
    cases r1 with
    | @tup l xs _ t1 k1 =>
      cases r2 with
      | @tup l2 ys _ t2 k2 =>
        cases rx; cases ry
        obtain ⟨its, v1, p1, z1⟩ := I.tuple (seqT_same hs t1)
        obtain ⟨its2, v2, p2, z2⟩ := I.tuple (seqT_same hs t2)
        cases k2
        cases v2
        have l1 := v1.length
        have l2 := k1.length
        refine SeqAt.RcNeAt.tuples (e := fun _ => true) p1 p2 (by omega) (fun j h1 h2 => absurd h2 (Nat.not_lt_zero _)) X.prog X.w _ _ ?_
        have e : ((List.range (min its.toArray.size ([] : List Value).toArray.size)).all (fun _ => true) && its.toArray.size == ([] : List Value).toArray.size) = ds.isEmpty := by
          cases ds with
          | nil => cases its with
            | nil => rfl
            | cons _ _ => simp only [List.length_nil, List.length_cons] at l1 l2; omega
          | cons _ _ => cases its with
            | nil => simp only [List.length_nil, List.length_cons] at l1 l2; omega
            | cons _ _ => simp
        rw [e]
        exact ⟨.bl _, H, I, rfl, q _ _ (.here hs (.bl _))⟩
theorem okLt_ne {d e : D} (h : okLt d e = true) : alike d e = true ∧ d ≠ .none ∧ okEq d = true := by
  unfold okLt at h
  rw [Bool.and_eq_true, Bool.and_eq_true] at h
  refine ⟨h.1.1, fun z => ?_, h.2⟩
  subst z; exact absurd h.1.2 Bool.false_ne_true
theorem room_lt {A : Around} {d e : D} (h : okEq d = true) (hu : A.units + 66 < cLine) : A.units + min d.depth e.depth < cLine := SeqAt.room_of_shaped h (by omega)
theorem o_lt (hu : X.A.units + 66 < cLine) : OpR X (compareOp .Lt) (rOf X.K gLt) := by
  intro pins s σ H x y v u Q I rx ry ⟨Hz, d, e, b, hs, r1, r2, hg, q⟩
  unfold gLt at hg
  split at hg
  · rename_i h
    cases hg
    obtain ⟨k1, k2, k3⟩ := okLt_ne h.1
    obtain ⟨as, h1⟩ := rep_reads I hs r1 k3 rx
    obtain ⟨bs, h2⟩ := rep_reads I hs r2 h.2 ry
    exact PySem.W.lt_data h1 h2 k1 k2 (room_lt k3 hu) ⟨.bl _, H, I, rfl, q _ _ (.here hs (.bl _))⟩
  · cases hg
theorem o_gt (hu : X.A.units + 66 < cLine) : OpR X (compareOp .Gt) (rOf X.K gGt) := by
  intro pins s σ H x y v u Q I rx ry ⟨Hz, d, e, b, hs, r1, r2, hg, q⟩
  unfold gGt at hg
  split at hg
  · rename_i h
    cases hg
    obtain ⟨k1, k2, k3⟩ := okLt_ne h.1
    obtain ⟨as, h1⟩ := rep_reads I hs r1 k3 rx
    obtain ⟨bs, h2⟩ := rep_reads I hs r2 h.2 ry
    exact PySem.W.gt_data h1 h2 k1 k2 (room_lt k3 hu) ⟨.bl _, H, I, rfl, q _ _ (.here hs (.bl _))⟩
  · cases hg
theorem o_le (hu : X.A.units + 66 < cLine) : OpR X (compareOp .LtE) (rOf X.K gLe) := by
  intro pins s σ H x y v u Q I rx ry ⟨Hz, d, e, b, hs, r1, r2, hg, q⟩
  unfold gLe at hg
  split at hg
  · rename_i h
    cases hg
    obtain ⟨k1, k2, k3⟩ := okLt_ne h.1
    obtain ⟨as, h1⟩ := rep_reads I hs r1 k3 rx
    obtain ⟨bs, h2⟩ := rep_reads I hs r2 h.2 ry
    exact PySem.W.le_data h1 h2 k1 k2 (room_lt k3 hu) ⟨.bl _, H, I, rfl, q _ _ (.here hs (.bl _))⟩
  · cases hg
theorem o_ge (hu : X.A.units + 66 < cLine) : OpR X (compareOp .GtE) (rOf X.K gGe) := by
  intro pins s σ H x y v u Q I rx ry ⟨Hz, d, e, b, hs, r1, r2, hg, q⟩
  unfold gGe at hg
  split at hg
  · rename_i h
    cases hg
    obtain ⟨k1, k2, k3⟩ := okLt_ne h.1
    obtain ⟨as, h1⟩ := rep_reads I hs r1 k3 rx
    obtain ⟨bs, h2⟩ := rep_reads I hs r2 h.2 ry
    exact PySem.W.ge_data h1 h2 k1 k2 (room_lt k3 hu) ⟨.bl _, H, I, rfl, q _ _ (.here hs (.bl _))⟩
  · cases hg
theorem sign_of {y : Str} (h : isSign y = true) : y = ⟨#[y.cps.getD 0 0]⟩ := by
  unfold isSign at h
  have h' : y.cps.size = 1 := eq_of_beq h
  obtain ⟨c⟩ := y
  obtain ⟨l⟩ := c
  match l, h' with
  | [a], _ => rfl
theorem eqAt_str_dict {A : Around} {s : Shared} {l : Addr} {es : Array DictEntry} {ep : Nat} (R : DT.Raw s.heap l es ep) (b : Str) (u : Tok) (hu : A.units < cLine) : SeqAt.EqAt A s (.str b u) (.ref l) false := fun prog w E Q h => by
  obtain ⟨⟨cls, dd, data, sl⟩, ho, hx, hd⟩ := id R
  simp only at hd
  subst hd
  unfold eqBool
  refine wpAny_holding ?_
  refine wpAny_ite_split (fun hab => absurd (eq_of_beq hab) nofun) (fun _ => ?_)
  refine wpAny_bind (SeqAt.rc_eq_decline_or (k := false) (typeIs_str s b u) R.typeIs (by decide) F.sub_dict_str F.slot_str_eq F.slot_dict_eq_refl
    (fun Q' hq => PySem.call_meets F.slot_str_eq (typeIs_str s b u) F.entry_str_eq (F.args_str_eq_2 _ _) (SeqAt.str_eq_declines_dict b u l cls es ep dd sl) ⟨ho, hq⟩) (fun Q' hq => wpAny_call_entry F.slot_dict_eq_refl R.typeIs F.entry_dict_eq ?_ (F.args_dict_eq_2 _ _)) (fun _ hq => wpAny_of_eq rfl hq) (.inr hu) (wpAny_truthy_bool h))
  · show wpAny _ _ (Builtin.Dict.dictSlotArgs "__eq__" ⟨[.ref l, .str b u], []⟩ >>= _) _ _ s
    refine wpAny_bind ?_
    unfold Builtin.Dict.dictSlotArgs
    refine wpAny_bind (wpAny_notOrdered_dict R.typeIs ?_)
    refine wpAny_pure ?_
    refine wpAny_bind (wpAny_isInstance (T := "str") (typeIs_str s b u) F.sub_str_dict ?_)
    simp only [Bool.not_false, if_true]
    exact wpAny_bind (wpAny_rule (wpAny_pure ⟨_, rfl, hq⟩))
theorem box_ne {X : Cx} {pins : List (Addr × Obj)} {σ : L2.St} {H Hz : Hp} {s : Shared} {x : V} {u : Value} {d : D} {ds : List D} (I : Inv X pins σ H s) (hs : Same Hz H) (r : Rep X.K Hz x d) (rx : RelV x u) (h0 : dictIn d ds = true) {A : Around} (hu : A.units < cLine) (b : Str) (t : Tok) :
    SeqAt.EqAt A s (.str b t) u false := by
  unfold dictIn at h0
  rw [Bool.and_eq_true] at h0
  cases r with
  | @lst a xs ds' h k =>
    cases rx
    obtain ⟨its, v1, p1, z1⟩ := I.list (sqL_same hs h)
    exact SeqAt.EqAt.str_list b t p1.isList hu
  | @tup a xs ds' h k =>
    cases rx
    obtain ⟨its, v1, p1, z1⟩ := I.tuple (seqT_same hs h)
    exact SeqAt.EqAt.str_tuple b t p1 hu
  | @dK a kvs ps h k =>
    cases (show u = Value.ref a from rx)
    rcases rd_same hs h with h | ⟨ob, h⟩
    · obtain ⟨_, _, vs, _, o, es, ep, h1, h2, h3, _⟩ := (show ObjOk X.prog X.w H s.heap a (.dK kvs) from I.hok a _ h)
      exact eqAt_str_dict ⟨o, h1, h2, h3⟩ b t hu
    · obtain ⟨_, _, _, vs, _, o, es, ep, h1, h2, h3, _⟩ := (show ObjOk X.prog X.w H s.heap a (.frz ob (.dK kvs)) from I.hok a _ h)
      exact eqAt_str_dict ⟨o, h1, h2, h3⟩ b t hu
  | @dT a kvs ps h k =>
    cases (show u = Value.ref a from rx)
    rcases rd_same hs h with h | ⟨ob, h⟩
    · obtain ⟨_, _, xs, _, o, es, ep, h1, h2, h3, _⟩ := (show ObjOk X.prog X.w H s.heap a (.dT kvs) from I.hok a _ h)
      exact eqAt_str_dict ⟨o, h1, h2, h3⟩ b t hu
    · obtain ⟨_, _, _, xs, _, o, es, ep, h1, h2, h3, _⟩ := (show ObjOk X.prog X.w H s.heap a (.frz ob (.dT kvs)) from I.hok a _ h)
      exact eqAt_str_dict ⟨o, h1, h2, h3⟩ b t hu
  | _ => exact absurd h0.1 Bool.false_ne_true
theorem strs_vals {K : Fg} {Hz : Hp} {d : D} : ∀ {xs : List V} {its : List Value} {ds : List D}, Vals xs its → RepL K Hz xs ds → dictIn d ds = true → ∀ y ∈ its, ∃ x t, y = Value.str x t
  | _, _, _, .nil, .nil, _, y, hy => by cases hy
  | _, _, _, .cons r t, .cons q w, h, y, hy => by
    unfold dictIn at h
    rw [Bool.and_eq_true, List.all_cons, Bool.and_eq_true] at h
    rcases List.mem_cons.mp hy with e | hy
    · subst e
      cases q with
      | str x =>
        obtain ⟨t, e⟩ := r
        exact ⟨x, t, e⟩
      | _ => exact absurd h.2.1 Bool.false_ne_true
    · exact strs_vals t w (by unfold dictIn; rw [Bool.and_eq_true]; exact ⟨h.1, h.2.2⟩) y hy
theorem o_in (hu : X.A.units + 66 < cLine) : OpR X (compareOp .In) (rOf X.K gIn) := by
  intro pins s σ H x y v u Q I rx ry ⟨Hz, d, e, b, hs, r1, r2, hg, q⟩
  unfold gIn inD at hg
  cases e with
  | list ds =>
    by_cases h : okEq d = true ∧ okEq (.list ds) = true
    · simp only [h, and_self, if_true, Option.map_some, Option.some.injEq] at hg
      subst hg
      obtain ⟨as, h1⟩ := rep_reads I hs r1 h.1 rx
      obtain ⟨bs, h2⟩ := rep_reads I hs r2 h.2 ry
      exact SeqAt.in_list_reads h2 h1 (by simpa [PyData.canLay0] using SeqAt.canLay_of_shaped h.2) (SeqAt.canLay_of_shaped h.1) (room_in_shaped h.1 (by omega)) ⟨.bl _, H, I, rfl, q _ _ (.here hs (.bl _))⟩
    · simp only [h, if_false] at hg
      by_cases h2 : dictIn d ds = true
      · simp only [h2, if_true, Option.map_some, Option.some.injEq] at hg
        subst hg
        cases r2 with
        | @lst l xs _ t1 k1 =>
          cases ry
          obtain ⟨its, v1, p1, z1⟩ := I.list (sqL_same hs t1)
          refine SeqAt.in_listAt (fun _ => false) p1.isList (fun y hy => ?_) ?_
          · obtain ⟨x, t, rfl⟩ := strs_vals v1 k1 h2 y (by simpa using hy)
            exact box_ne I hs r1 rx h2 (by show X.A.in1.units < cLine; simp only [Around.in1_units]; omega) x t
          · have e : (its.toArray.any fun _ => false) = false := by simp
            rw [e]
            exact ⟨.bl _, H, I, rfl, q _ _ (.here hs (.bl _))⟩
      · simp only [h2, if_false, Option.map_none] at hg; cases hg
  | tuple ds =>
    by_cases h : okEq d = true ∧ okEq (.tuple ds) = true
    · simp only [h, and_self, if_true, Option.map_some, Option.some.injEq] at hg
      subst hg
      obtain ⟨as, h1⟩ := rep_reads I hs r1 h.1 rx
      obtain ⟨bs, h2⟩ := rep_reads I hs r2 h.2 ry
      exact SeqAt.in_tuple_reads h2 h1 (by simpa [PyData.canLay0] using SeqAt.canLay_of_shaped h.2) (SeqAt.canLay_of_shaped h.1) (room_in_shaped h.1 (by omega)) ⟨.bl _, H, I, rfl, q _ _ (.here hs (.bl _))⟩
    · simp only [h, if_false, Option.map_none] at hg; cases hg
  | str z =>
    cases d with
    | str y' =>
      by_cases h : isSign y' = true
      · simp only [h, if_true, Option.map_some, Option.some.injEq] at hg
        subst hg
        have e1 := str_of r1
        have e2 := str_of r2
        subst e1 e2
        refine op_in_sign pins s σ H _ _ v u Q I rx ry ⟨y'.cps.getD 0 0, z, by rw [← sign_of h], rfl, q _ _ (.here hs (.bl _))⟩
      · simp only [h, if_false, Option.map_none] at hg; cases hg
    | _ => cases hg
  | dict ps =>
    cases hc : kOf d with
    | none => rw [hc] at hg; cases hg
    | some c =>
      rw [hc] at hg
      by_cases hk : sameK c ps = true
      · simp only [hk, if_true, Option.map_some, Option.some.injEq] at hg
        subst hg
        obtain ⟨a, o, rfl, _, dg, ro⟩ := dg_of hs r2 r1 hc hk
        cases (show u = Value.ref a from ry)
        refine g_in (by omega) I dg rx fun s' I' => ⟨.bl _, H, I', rfl, ?_⟩
        have e : o.isSome = (dget ps c).isSome := by
          rcases ro with ⟨v, d, h1, h2, _⟩ | ⟨h1, h2⟩ <;> rw [h1, h2] <;> rfl
        rw [e]
        exact q _ _ (.here hs (.bl _))
      · simp only [hk, if_false, Option.map_none] at hg; cases hg
  | _ => cases hg
theorem o_notIn (hu : X.A.units + 66 < cLine) : OpR X (compareOp .NotIn) (rOf X.K gNotIn) := by
  intro pins s σ H x y v u Q I rx ry ⟨Hz, d, e, b, hs, r1, r2, hg, q⟩
  unfold gNotIn inD at hg
  cases e with
  | list ds =>
    by_cases h : okEq d = true ∧ okEq (.list ds) = true
    · simp only [h, and_self, if_true, Option.map_some, Option.some.injEq] at hg
      subst hg
      obtain ⟨as, h1⟩ := rep_reads I hs r1 h.1 rx
      obtain ⟨bs, h2⟩ := rep_reads I hs r2 h.2 ry
      exact SeqAt.notIn_list_reads h2 h1 (by simpa [PyData.canLay0] using SeqAt.canLay_of_shaped h.2) (SeqAt.canLay_of_shaped h.1) (room_in_shaped h.1 (by omega)) ⟨.bl _, H, I, rfl, q _ _ (.here hs (.bl _))⟩
    · simp only [h, if_false] at hg
      by_cases h2 : dictIn d ds = true
      · simp only [h2, if_true, Option.map_some, Option.some.injEq] at hg
        subst hg
        cases r2 with
        | @lst l xs _ t1 k1 =>
          cases ry
          obtain ⟨its, v1, p1, z1⟩ := I.list (sqL_same hs t1)
          refine SeqAt.notIn_listAt (fun _ => false) p1.isList (fun y hy => ?_) ?_
          · obtain ⟨x, t, rfl⟩ := strs_vals v1 k1 h2 y (by simpa using hy)
            exact box_ne I hs r1 rx h2 (by show X.A.in1.units < cLine; simp only [Around.in1_units]; omega) x t
          · have e : (its.toArray.any fun _ => false) = false := by simp
            rw [e]
            exact ⟨.bl _, H, I, rfl, q _ _ (.here hs (.bl _))⟩
      · simp only [h2, if_false, Option.map_none] at hg; cases hg
  | tuple ds =>
    by_cases h : okEq d = true ∧ okEq (.tuple ds) = true
    · simp only [h, and_self, if_true, Option.map_some, Option.some.injEq] at hg
      subst hg
      obtain ⟨as, h1⟩ := rep_reads I hs r1 h.1 rx
      obtain ⟨bs, h2⟩ := rep_reads I hs r2 h.2 ry
      exact SeqAt.notIn_tuple_reads h2 h1 (by simpa [PyData.canLay0] using SeqAt.canLay_of_shaped h.2) (SeqAt.canLay_of_shaped h.1) (room_in_shaped h.1 (by omega)) ⟨.bl _, H, I, rfl, q _ _ (.here hs (.bl _))⟩
    · simp only [h, if_false, Option.map_none] at hg; cases hg
  | str z =>
    cases d with
    | str y' =>
      by_cases h : isSign y' = true
      · simp only [h, if_true, Option.map_some, Option.some.injEq] at hg
        subst hg
        have e1 := str_of r1
        have e2 := str_of r2
        subst e1 e2
        refine op_notIn_sign pins s σ H _ _ v u Q I rx ry ⟨y'.cps.getD 0 0, z, by rw [← sign_of h], rfl, q _ _ (.here hs (.bl _))⟩
      · simp only [h, if_false, Option.map_none] at hg; cases hg
    | _ => cases hg
  | dict ps =>
    cases hc : kOf d with
    | none => rw [hc] at hg; cases hg
    | some c =>
      rw [hc] at hg
      by_cases hk : sameK c ps = true
      · simp only [hk, if_true, Option.map_some, Option.some.injEq] at hg
        subst hg
        obtain ⟨a, o, rfl, _, dg, ro⟩ := dg_of hs r2 r1 hc hk
        cases (show u = Value.ref a from ry)
        refine g_notIn (by omega) I dg rx fun s' I' => ⟨.bl _, H, I', rfl, ?_⟩
        have e : o.isSome = (dget ps c).isSome := by
          rcases ro with ⟨v, d, h1, h2, _⟩ | ⟨h1, h2⟩ <;> rw [h1, h2] <;> rfl
        rw [e]
        exact q _ _ (.here hs (.bl _))
      · simp only [hk, if_false, Option.map_none] at hg; cases hg
  | _ => cases hg
theorem rep_non {K : Fg} {Hz : Hp} {v : V} {d : D} (r : Rep K Hz v d) : decide (v = .non) = isNoneD d := by
  cases r <;> first | rfl | simp [isNoneD]
theorem o_is : OpR X (compareOp .Is) (rOf X.K gIs) := by
  intro pins s σ H x y v u Q I rx ry ⟨Hz, d, e, b, hs, r1, r2, hg, q⟩
  unfold gIs isD at hg
  cases e with
  | none =>
    simp only [Option.map_some, Option.some.injEq] at hg
    subst hg
    cases r2
    exact op_isN pins s σ H x .non v u Q I rx ry ⟨rfl, by rw [rep_non r1]; exact q _ _ (.here hs (.bl _))⟩
  | bool c =>
    cases d with
    | bool a =>
      simp only [Option.map_some, Option.some.injEq] at hg
      subst hg
      cases r1; cases r2
      exact op_isBl pins s σ H _ _ v u Q I rx ry ⟨a, c, rfl, rfl, q _ _ (.here hs (.bl _))⟩
    | _ => cases hg
  | _ => cases hg
theorem o_isNot : OpR X (compareOp .IsNot) (rOf X.K gIsNot) := by
  intro pins s σ H x y v u Q I rx ry ⟨Hz, d, e, b, hs, r1, r2, hg, q⟩
  unfold gIsNot isD at hg
  cases e with
  | none =>
    simp only [Option.map_some, Option.some.injEq] at hg
    subst hg
    cases r2
    exact op_notN pins s σ H x .non v u Q I rx ry ⟨rfl, by rw [rep_non r1]; exact q _ _ (.here hs (.bl _))⟩
  | bool c =>
    cases d with
    | bool a =>
      simp only [Option.map_some, Option.some.injEq] at hg
      subst hg
      cases r1; cases r2
      exact op_notBl pins s σ H _ _ v u Q I rx ry ⟨a, c, rfl, rfl, q _ _ (.here hs (.bl _))⟩
    | _ => cases hg
  | _ => cases hg
/-- a tracked list's object -/
theorem lst_obj {pins : List (Addr × Obj)} {σ : L2.St} {H : Hp} {s : Shared} {a : Addr} {xs : List V} (I : Inv X pins σ H s) (h : Rd H a (.lst xs)) :
    xs.length ≤ sizeLine ∧ ∃ (its : List Value) (n : Nat), Vals xs its ∧ s.heap.get? a = some { cls := .type "list", data := .seq its.toArray n } := h.ok I.hok
theorem o_add : OpR X (binaryOp .Add) (rOf X.K gAdd) := by
  intro pins s σ H x y v u Q I rx ry ⟨Hz, d, e, b, hs, r1, r2, hg, q⟩
  unfold gAdd at hg
  split at hg
  · rename_i i j
    cases hg
    have e1 := int_of r1
    have e2 := int_of r2
    subst e1 e2
    exact op_add pins s σ H _ _ v u Q I rx ry ⟨i, j, rfl, rfl, q _ _ (.here hs (.int _))⟩
  · rename_i i j
    cases hg
    cases r1
    have e2 := int_of r2
    subst e2
    cases rx
    obtain ⟨t, rfl⟩ := ry
    exact PySem.IntBool.add_bool_int ⟨.int _, H, I.tok _, ⟨_, rfl⟩, q _ _ (.here hs (.int _))⟩
  · rename_i a b
    split at hg
    · rename_i hl
      cases hg
      have e1 := str_of r1
      have e2 := str_of r2
      subst e1 e2
      exact op_add_str pins s σ H _ _ v u Q I rx ry ⟨a, b, rfl, rfl, hl, q _ _ (.here hs (.str _))⟩
    · cases hg
  · rename_i ds es
    split at hg
    · rename_i hl
      cases hg
      cases r1 with
      | @lst l xs _ h1 k1 =>
        cases r2 with
        | @lst l2 ys _ h2 k2 =>
          cases rx; cases ry
          obtain ⟨its, v1, p1, z1⟩ := I.list (sqL_same hs h1)
          obtain ⟨its2, v2, p2, z2⟩ := I.list (sqL_same hs h2)
          obtain ⟨⟨cls, dd, data, sl⟩, n, o1, hc, _, hd⟩ := p1
          obtain ⟨⟨cls2, dd2, data2, sl2⟩, n2, o2, hc2, _, hd2⟩ := p2
          simp only at hc hd hc2 hd2
          subst hc hd hc2 hd2
          have l1 := v1.length
          have l2 := v2.length
          have l3 := k1.length
          have l4 := k2.length
          refine concat_meets ⟨_, o1, rfl⟩ ⟨_, o2, rfl⟩ noFill_list_add seq_list_add PySem.F.slot_list_add PySem.F.entry_list_add (PySem.F.args_list_add_2 _ _) (list_addW _ _ its.toArray its2.toArray n n2 dd dd2 sl sl2 (by rw [List.size_toArray, List.size_toArray]; omega)) ⟨o1, o2, ?_⟩
          have ea : its.toArray ++ its2.toArray = (its ++ its2).toArray := by simp
          rw [ea]
          exact ⟨.ref _, _, I.lnew (t' := s.toks) (v1.append v2) (by rw [List.length_append]; omega), rfl, q _ _ (.lst hs I.fresh (k1.append k2))⟩
    · cases hg
  · rename_i ds es
    split at hg
    · rename_i hl
      cases hg
      cases r1 with
      | @tup l xs _ h1 k1 ex1 =>
        cases r2 with
        | @tup l2 ys _ h2 k2 ex2 =>
          have l3 := k1.length
          have l4 := k2.length
          refine op_catA pins s σ H _ _ v u Q I rx ry ⟨l, l2, xs, ys, rfl, rfl, seqT_same hs h1, seqT_same hs h2, by omega, fun e => ?_, fun e1 e2 => ?_, fun _ _ p hp => q _ _ (.tup hs hp (k1.append k2))⟩
          · subst e
            cases k1
            exact q _ _ (.here hs (.tup h2 k2 ex2))
          · subst e2
            cases k2
            exact q _ _ (.here hs (.tup h1 (by simpa using k1) ex1))
    · cases hg
  · cases hg
theorem o_sub : OpR X (binaryOp .Sub) (rOf X.K gSub) := by
  intro pins s σ H x y v u Q I rx ry ⟨Hz, d, e, b, hs, r1, r2, hg, q⟩
  unfold gSub at hg
  split at hg
  · rename_i i j
    cases hg
    have e1 := int_of r1
    have e2 := int_of r2
    subst e1 e2
    exact op_sub pins s σ H _ _ v u Q I rx ry ⟨i, j, rfl, rfl, q _ _ (.here hs (.int _))⟩
  · rename_i i j
    cases hg
    cases r1
    have e2 := int_of r2
    subst e2
    cases rx
    obtain ⟨t, rfl⟩ := ry
    exact PySem.IntBool.sub_bool_int ⟨.int _, H, I.tok _, ⟨_, rfl⟩, q _ _ (.here hs (.int _))⟩
  · rename_i i j
    cases hg
    cases r2
    have e1 := int_of r1
    subst e1
    cases ry
    obtain ⟨t, rfl⟩ := rx
    exact PySem.IntBool.sub_int_bool ⟨.int _, H, I.tok _, ⟨_, rfl⟩, q _ _ (.here hs (.int _))⟩
  · cases hg
theorem o_fdiv : OpR X (binaryOp .FloorDiv) (rOf X.K gFdiv) := by
  intro pins s σ H x y v u Q I rx ry ⟨Hz, d, e, b, hs, r1, r2, hg, q⟩
  unfold gFdiv at hg
  split at hg
  · rename_i i j
    split at hg
    · rename_i hc
      cases hg
      have e1 := int_of r1
      have e2 := int_of r2
      subst e1 e2
      exact op_fdivW pins s σ H _ _ v u Q I rx ry ⟨i, j, rfl, rfl, hc, q _ _ (.here hs (.int _))⟩
    · cases hg
  · cases hg
theorem o_mod : OpR X (binaryOp .Mod) (rOf X.K gMod) := by
  intro pins s σ H x y v u Q I rx ry ⟨Hz, d, e, b, hs, r1, r2, hg, q⟩
  unfold gMod at hg
  split at hg
  · rename_i i j
    split at hg
    · rename_i hc
      cases hg
      have e1 := int_of r1
      have e2 := int_of r2
      subst e1 e2
      exact op_mod pins s σ H _ _ v u Q I rx ry ⟨i, j, rfl, rfl, hc, q _ _ (.here hs (.int _))⟩
    · cases hg
  · cases hg
theorem o_pow : OpR X (binaryOp .Pow) (rOf X.K gPow) := by
  intro pins s σ H x y v u Q I rx ry ⟨Hz, d, e, b, hs, r1, r2, hg, q⟩
  unfold gPow at hg
  split at hg
  · rename_i i j
    split at hg
    · rename_i hc
      cases hg
      have e1 := int_of r1
      have e2 := int_of r2
      subst e1 e2
      obtain ⟨t, rfl⟩ := rx
      obtain ⟨t', rfl⟩ := ry
      exact PyProof.Rows.pow_int hc.1 hc.2 ⟨.int _, H, I.tok _, ⟨_, rfl⟩, q _ _ (.here hs (.int _))⟩
    · cases hg
  · cases hg
theorem foldl_app (x : List Nat) : ∀ (n : Nat) (acc : Array Nat), (List.replicate n x.toArray).foldl (· ++ ·) acc = acc ++ ((List.replicate n x).flatten).toArray
  | 0, acc => by simp
  | n + 1, acc => by
    rw [List.replicate_succ, List.foldl_cons, foldl_app x n, List.replicate_succ, List.flatten_cons]
    apply Array.ext'
    simp
theorem o_mul : OpR X (binaryOp .Mult) (rOf X.K gMul) := by
  intro pins s σ H x y v u Q I rx ry ⟨Hz, d, e, b, hs, r1, r2, hg, q⟩
  unfold gMul at hg
  split at hg
  · rename_i i j
    split at hg
    · rename_i hc
      cases hg
      have e1 := int_of r1
      have e2 := int_of r2
      subst e1 e2
      exact op_mulW pins s σ H _ _ v u Q I rx ry ⟨i, j, rfl, rfl, hc, q _ _ (.here hs (.int _))⟩
    · cases hg
  · rename_i z n
    have e1 := str_of r1
    have e2 := int_of r2
    subst e1 e2
    obtain ⟨t, rfl⟩ := rx
    obtain ⟨t', rfl⟩ := ry
    have hline : (sizeLine : Nat) = 16777216 := sizeLine_eq
    by_cases h1 : 2 ≤ n ∧ n ≤ 1000 ∧ 0 < z.length ∧ z.length ≤ 1000
    · rw [if_pos h1] at hg
      cases hg
      obtain ⟨a1, a2, a3, a4⟩ := h1
      have hb : (n == 1 || z.length == 0) = false := by
        rw [Bool.or_eq_false_iff]
        exact ⟨beq_eq_false_iff_ne.mpr (by omega), beq_eq_false_iff_ne.mpr (by omega)⟩
      have hm : z.length * n.toNat ≤ 1000 * 1000 := Nat.mul_le_mul a4 (by omega)
      have ht : Builtin.Str.tooLong (z.length * n.toNat) = false := by
        unfold Builtin.Str.tooLong
        simp only [decide_eq_false_iff_not]
        omega
      refine PySem.P.mul_str (by rw [Bool.or_eq_false_iff]; exact ⟨decide_eq_false (by omega), decide_eq_false (by omega)⟩) (fun _ _ => ?_) (fun _ _ => ht) ?_
      · have : (1000 : Int) ≤ (2 ^ 63 - 1) / n := by
          apply Int.le_ediv_of_mul_le (by omega)
          omega
        omega
      · rw [if_neg (by omega), hb, if_neg Bool.false_ne_true]
        have ef : List.foldl (fun x1 x2 => x1 ++ x2) #[] (List.replicate n.toNat z.cps) = (strMul z n).cps := by
          have := foldl_app z.cps.toList n.toNat #[]
          rw [Array.toArray_toList] at this
          rw [this]
          simp [strMul]
        rw [ef]
        have hlen : (strMul z n).length = z.length * n.toNat := by
          show (strMul z n).cps.size = z.cps.size * n.toNat
          unfold strMul
          rw [List.size_toArray, List.length_flatten, List.map_replicate, List.sum_replicate_nat, Array.length_toList, Nat.mul_comm]
        exact ⟨by show (strMul z n).length ≤ _; rw [hlen]; omega, .str (strMul z n), H, I.tok _, ⟨_, rfl⟩, q _ _ (.here hs (.str _))⟩
    · rw [if_neg h1] at hg
      split at hg
      · rename_i h2
        cases hg
        obtain ⟨a1, a2, a3⟩ := h2
        have hb : (n == 1 || z.length == 0) = true := by rw [a3]; simp
        refine PySem.P.mul_str (by rw [Bool.or_eq_false_iff]; exact ⟨decide_eq_false (by omega), decide_eq_false (by omega)⟩) (fun _ h => ?_) (fun _ h => ?_) ?_
        · rw [hb] at h; cases h
        · rw [hb] at h; cases h
        · rw [if_neg (by omega), if_pos hb]
          exact ⟨.str z, H, I, ⟨_, rfl⟩, q _ _ (.here hs (.str _))⟩
      · cases hg
  · cases hg
end
end FK

set_option Elab.async false
set_option linter.all false
set_option maxRecDepth 100000
/-! FK 12: built-in functions and methods on data. -/
namespace HT
open PySem PySem.Spec PyProof.Rows L2
section
variable {prog : Program} {w : World} {A : Around} {E : Value → Shared → Prop} {s : Shared}
theorem sliceApplied_rev {sl : Addr} {vl vu vs : Value} {n : Nat} {Q : Int × Int × Nat → Shared → Prop} (hs : s.heap.IsSliceOf sl vl vu vs) (pl : IsPart vl none) (pu : IsPart vu none) (ps : IsPart vs (some (-1)))
    (h : Q ((n : Int) - 1, -1, n) s) : wpAny (model prog w) A (Builtin.Slice.sliceApplied (.ref sl) (pure (n : Int))) Q E s := by
  obtain ⟨os, hos, hcs, hds⟩ := id hs
  unfold Builtin.Slice.sliceApplied Builtin.Slice.sliceFields
  refine wpAny_bind (wpAny_bind (wpAny_field hos hds (x := vl) rfl (wpAny_bind (wpAny_field hos hds (x := vu) rfl (wpAny_bind (wpAny_field hos hds (x := vs) rfl (wpAny_pure ?_)))))))
  refine wpAny_bind (slicePart_ ps ?_)
  show wpAny _ _ (if ((-1 : Int) == 0) = true then _ else _) _ _ s
  rw [if_neg (by decide)]
  refine wpAny_bind (slicePart_ pl (wpAny_bind (slicePart_ pu (wpAny_bind (wpAny_pure ?_)))))
  show wpAny _ _ (pure ((n : Int) - 1, (-1 : Int), Builtin.Slice.slicePlaces ((n : Int) - 1) (-1) (-1))) _ _ s
  have e : Builtin.Slice.slicePlaces ((n : Int) - 1) (-1) (-1) = n := by
    unfold Builtin.Slice.slicePlaces
    have h1 : ¬ (-1 : Int) > 0 := by omega
    simp only [h1, if_false, Int.neg_neg, Int.ediv_one]
    split <;> omega
  rw [e]
  exact wpAny_pure h
theorem pick_rev (xs : Array Value) : ((List.range xs.size).filterMap fun (m : Nat) => xs[((xs.size : Int) - 1 + (m : Int) * (-1)).toNat]?).toArray = xs.toList.reverse.toArray := by
  congr 1
  have e1 : (List.range xs.size).filterMap (fun (m : Nat) => xs[((xs.size : Int) - 1 + (m : Int) * (-1)).toNat]?) = (List.range xs.size).filterMap (fun m => xs[xs.size - 1 - m]?) := by
    congr 1
    funext m
    have : ((xs.size : Int) - 1 + (m : Int) * (-1)).toNat = xs.size - 1 - m := by omega
    rw [this]
  rw [e1]
  have e2 := PySem.W.krv_range xs.size
  have e3 := PySem.W.krv_all xs
  have : (List.range xs.size).filterMap (fun m => xs[xs.size - 1 - m]?) = ((List.range xs.size).map fun m => xs.size - 1 - m).filterMap (xs[·]?) := by
    rw [List.filterMap_map]; rfl
  rw [this, e2, List.filterMap_reverse, e3]
theorem getItem_tuple_rev {t sl : Addr} {items : Array Value} {vl vu vs : Value} {Q : Value → Shared → Prop} (ht : IsTup s.heap t items) (hs : s.heap.IsSliceOf sl vl vu vs) (pl : IsPart vl none) (pu : IsPart vu none) (ps : IsPart vs (some (-1)))
    (h : Q (.ref s.heap.objs.size) { s with heap := s.heap.push { cls := .type "tuple", data := .seq items.toList.reverse.toArray } })
    (hsz : items.size ≤ sizeLine) : wpAny (model prog w) A (getItem (.ref t) (.ref sl)) Q E s := by
  have htake : sizeOk (.seq items.toList.reverse.toArray) := by
    show items.toList.reverse.toArray.size ≤ sizeLine
    rw [List.size_toArray, List.length_reverse, Array.length_toList]
    exact hsz
  obtain ⟨os, hos, hcs, hds⟩ := id hs
  have hTs : s.TypeIs (.ref sl) "slice" := ⟨os, hos, hcs⟩
  unfold getItem
  try with_reducible refine wpAny_holding ?_
  first | refine wpAny_bind (wpAny_pure ?_) | skip
  refine wpAny_bind (wpAny_sequenceKey ht.typeIs (by decide) ?_)
  refine wpAny_bind (wpAny_callSpecial?_slot (name := Str.ofString "__getitem__") ht.typeIs PyProof.Rows.slot_tuple_getitem
    (wpAny_call_entry PyProof.Rows.slot_tuple_getitem ht.typeIs entry_tuple_getitem ?_ (args_tuple_getitem _ _)))
  show wpAny _ _ (Builtin.Tuple.tupleItemsOf (.ref t) >>= _) _ _ s
  refine wpAny_bind (tupleItemsOf_ ht ?_)
  refine wpAny_bind (wpAny_typeOf hTs ?_)
  rw [if_pos (by decide)]
  refine wpAny_bind (sliceApplied_rev hs pl pu ps ?_)
  have hno : ¬ ((((items.size : Int) - 1) == 0 && (-1 : Int) == 1 && items.size == items.size) = true) := by
    intro q
    rw [Bool.and_eq_true, Bool.and_eq_true] at q
    exact absurd q.1.2 (by decide)
  show wpAny _ _ (if (((items.size : Int) - 1) == 0 && (-1 : Int) == 1 && items.size == items.size) = true then _ else _) _ _ s
  rw [if_neg hno, pick_rev]
  first
    | exact wpAny_bind (m := Builtin.Tuple.tupleExact _) (wpAny_newObj_type (wpAny_pure ⟨_, rfl, wpAny_pure h⟩) htake)
    | exact wpAny_bind (m := Builtin.Tuple.tupleExact _) (wpAny_newObj_type (wpAny_bind (wpAny_pure (wpAny_pure ⟨_, rfl, wpAny_pure h⟩))) htake)
    | exact wpAny_bind (wpAny_bind (m := Builtin.Tuple.tupleExact _) (wpAny_newObj_type (wpAny_pure (wpAny_pure ⟨_, rfl, wpAny_pure h⟩)) htake))
    | exact wpAny_bind (wpAny_bind (m := Builtin.Tuple.tupleExact _) (wpAny_newObj_type (wpAny_pure ⟨_, rfl, wpAny_pure h⟩) htake))
end
end HT
namespace FK
open PySem PySem.Spec PyProof.Rows L2
open PySem.W (alike dataLt AllAlike Sortable dataLe EachIs)

/-! ### subscripts -/
def gIx (x k : D) : Option B := match x, k with
  | .list ds, .int i => (atI ds i).map .fr
  | .tuple ds, .int i => (atI ds i).map .fr
  | .str z, .int i => if z.length ≤ sizeLine then (atI z.cps.toList i).map fun c => .fr (.str ⟨#[c]⟩) else none
  | _, _ => none
def cutD {α : Type} (xs : List α) (lo hi : Option Int) : List α := (xs.drop (HT.sIx xs.length 0 lo)).take (HT.sIx xs.length xs.length hi - HT.sIx xs.length 0 lo)
def gSl (x : D) (lo hi : Option Int) : Option B := match x with
  | .list ds => some (.ow (.list (cutD ds lo hi)))
  | .tuple ds => some (.fr (.tuple (cutD ds lo hi)))
  | .str z => if z.length ≤ sizeLine then some (.fr (.str (cutS z lo hi))) else none
  | _ => none
def gRev (x : D) : Option B := match x with
  | .list ds => some (.ow (.list ds.reverse))
  | .tuple ds => some (.fr (.tuple ds.reverse))
  | _ => none
abbrev SP := Env → Rs (Option Int)
def pNone : SP := fun ρ => .ok none ρ
def intOf : D → Option Int
  | .int i => some i
  | _ => none
def pSome (f : SE) : SP := fun ρ => (f ρ).frd fun d ρ1 => (lft (intOf d) ρ1).bnd fun i ρ2 => .ok (some i) ρ2
def sSl (f : SE) (lo hi : SP) : SE := fun ρ => (f ρ).frd fun x ρ1 => (lo ρ1).bnd fun l ρ2 => (hi ρ2).bnd fun u ρ3 => lft (gSl x l u) ρ3
def PO_ : Option Int → Option Int → Hp → Hp → Hp → (Nat → List Addr) → Prop := fun o y _ _ _ _ => o = y
def tPo (T : Tx) (W : WX) (f : SP) : TO := fun σ H Q => ∃ Hz ρ F, Zone T.K Hz H σ ρ F ∧ Aft T W Hz H F σ PO_ (f ρ) Q
theorem atI_rep {K : Fg} {Hz : Hp} {vs : List V} {ds : List D} {i : Int} {d : D} (r : RepL K Hz vs ds) (h : atI ds i = some d) : ∃ v, atI vs i = some v ∧ Rep K Hz v d := by
  unfold atI at h ⊢
  rw [r.length]
  cases e : ixN ds.length i with
  | none => rw [e] at h; cases h
  | some j =>
    rw [e] at h
    obtain ⟨v, h1, h2⟩ := r.get' (i := j) (d := d) h
    exact ⟨v, h1, h2⟩
section
variable {X : Cx} {T : Tx} {W : WX} {a b e : Expr} {fa fb : SE} {lo hi : Option Expr} {fl fh : SP} {pos p2 : Pos}
theorem i_ix : IxR X (rOf X.K gIx) := by
  intro value slice pins s σ H x y v u Q I rx ry ⟨Hz, d, e, b, hs, r1, r2, hg, q⟩ hsl
  unfold gIx at hg
  split at hg
  · rename_i ds i
    cases ha : atI ds i with
    | none => rw [ha] at hg; cases hg
    | some d =>
      rw [ha] at hg; cases hg
      cases r1 with
      | lst h1 k1 =>
        obtain ⟨z, hz1, hz2⟩ := atI_rep k1 ha
        exact ix_list value slice pins s σ H _ y v u Q I rx ry ⟨_, _, i, z, rfl, int_of r2, sqL_same hs h1, hz1, q _ _ (.here hs hz2)⟩ hsl
  · rename_i ds i
    cases ha : atI ds i with
    | none => rw [ha] at hg; cases hg
    | some d =>
      rw [ha] at hg; cases hg
      cases r1 with
      | tup h1 k1 =>
        obtain ⟨z, hz1, hz2⟩ := atI_rep k1 ha
        exact ix_tup value slice pins s σ H _ y v u Q I rx ry ⟨_, _, i, z, rfl, int_of r2, seqT_same hs h1, hz1, q _ _ (.here hs hz2)⟩ hsl
  · rename_i z i
    split at hg
    · rename_i hl
      cases ha : atI z.cps.toList i with
      | none => rw [ha] at hg; cases hg
      | some c =>
        rw [ha] at hg; cases hg
        exact ix_str value slice pins s σ H x y v u Q I rx ry ⟨z, i, c, str_of r1, int_of r2, hl, ha, q _ _ (.here hs (.str _))⟩ hsl
    · cases hg
  · cases hg
theorem e_ix (hK : X.K = T.K) (ha : PE X a (tE T W fa)) (hb : PE X b (tE T W fb)) (hs : PlainIx b) : PE X (.Subscript a b pos) (tE T W (sBin gIx fa fb)) :=
  PE.mono (pe_ix (by rw [← hK]; exact i_ix) ha hb hs) fun _ _ _ h => two h
theorem p_none : PO X none (tPo T W pNone) := ⟨fun pins s σ H Q I ⟨Hz, ρ, F, z, h⟩ => po_none.run pins s σ H Q I (h none Hz H F z .refl rfl)⟩
theorem p_some (he : PE X e (tE T W fa)) : PO X (some e) (tPo T W (pSome fa)) := by
  refine ⟨fun pins s σ H Q I ⟨Hz, ρ, F, z, h⟩ => (po_some he).run pins s σ H Q I ?_⟩
  refine ⟨Hz, ρ, F, z, Aft.imp (Aft.frd h) fun v H1 ⟨Hz1, F1, d, ρ1, z1, s1, r1, q1⟩ => ?_⟩
  have q1' : Aft T W Hz1 H1 F1 σ PO_ _ Q := q1.from s1 fun _ _ _ _ _ p => p
  cases hd : intOf d with
  | none => rw [hd] at q1'; cases q1'
  | some i =>
    rw [hd] at q1'
    have ed : d = .int i := by cases d <;> simp [intOf] at hd; rw [hd]
    subst ed
    exact ⟨i, int_of r1, q1' (some i) Hz1 H1 F1 z1 .refl rfl⟩
theorem cut_rep {K : Fg} {Hz : Hp} {vs : List V} {ds : List D} {l u : Option Int} (r : RepL K Hz vs ds) : RepL K Hz (cutV vs l u) (cutD ds l u) := by
  unfold cutV cutD
  rw [r.length]
  exact (r.drop _).take _
theorem cut_whole {α : Type} {xs : List α} {l u : Option Int} (h : HT.sIx xs.length 0 l = 0 ∧ HT.sIx xs.length xs.length u = xs.length) : cutD xs l u = xs := by
  unfold cutD; rw [h.1, h.2]; simp
theorem e_sl (hK : X.K = T.K) (he : PE X e (tE T W fa)) (hl : PO X lo (tPo T W fl)) (hh : PO X hi (tPo T W fh)) : PE X (.Subscript e (.Slice lo hi none p2) pos) (tE T W (sSl fa fl fh)) := by
  refine PE.mono (pe_slice (sl_list.or (sl_tupA.or sl_str)) he hl hh) fun σ H Q ⟨Hz, ρ, F, z, h⟩ => ?_
  refine ⟨Hz, ρ, F, z, Aft.imp (Aft.frd h) fun v H1 ⟨Hz1, F1, d, ρ1, z1, s1, r1, q1⟩ => ?_⟩
  refine ⟨Hz1, ρ1, F1, z1, Aft.imp (Aft.bnd (P := PO_) (q1.fromB s1)) fun l H2 ⟨Hz2, F2, l', ρ2, z2, s2, e2, q2⟩ => ?_⟩
  cases e2
  refine ⟨Hz2, ρ2, F2, z2, Aft.imp (Aft.bnd (P := PO_) (q2.fromB s2)) fun u H3 ⟨Hz3, F3, u', ρ3, z3, s3, e3, q3⟩ => ?_⟩
  cases e3
  have q4 := q3.fromB s3
  have r3 := r1.mono (s2.z.trans s3.z)
  rw [hK]
  cases hg : gSl d l u with
  | none => rw [hg] at q4; cases q4
  | some b =>
    rw [hg] at q4
    unfold gSl at hg
    split at hg
    · cases hg
      cases r3 with
      | lst h1 k1 => exact .inl ⟨_, _, rfl, sqL_same z3.sub h1, fun p hp => q4.made z3 (.lst z3.sub hp (cut_rep k1))⟩
    · cases hg
      cases r3 with
      | @tup t xs _ h1 k1 ex1 =>
        refine .inr (.inl ⟨_, _, rfl, seqT_same z3.sub h1, fun hw => ?_, fun _ p hp => q4.made z3 (.tup z3.sub hp (cut_rep k1))⟩)
        rw [k1.length] at hw
        rw [cut_whole hw] at q4
        exact q4.fin z3 (.tup h1 k1 ex1)
    · split at hg
      · rename_i hl
        cases hg
        exact .inr (.inr ⟨_, str_of r3, hl, q4.fin z3 (.str _)⟩)
      · cases hg
    · cases hg
/-- e[::-1] of a list or a tuple -/
theorem pe_revA {e : Expr} {te : TE} {k : Nat} {p1 p2 p3 pos : Pos} (he : PE X e te) : PE X (.Subscript e (.Slice none none (some (.UnaryOp .USub (.Constant (.int 1) k p1) p2)) p3) pos)
    (fun σ H Q => te σ H fun x H1 => ∃ a xs, x = .ref a ∧ ((SqL X.K H1 a xs ∧ ∀ p, H1 p = none → Q (.ref p) (upd H1 p (.lst xs.reverse))) ∨ (SqT X.K H1 a xs ∧ ∀ p, H1 p = none → Q (.ref p) (upd H1 p (.tup xs.reverse))))) := by
  refine ⟨fun pins s σ H Q I h => ?_⟩
  refine Subscript_ (thn (he.run pins s σ H _ I h) fun v s1 ⟨x, H1, I1, r1, q1⟩ => ?_)
  obtain ⟨a, xs, ex, q⟩ := q1
  subst ex
  cases r1
  have hst : PO X (some (.UnaryOp .USub (.Constant (.int 1) k p1) p2)) (tPart (tUn (rU fun i => .int (-i)) (tC (.int 1)))) := po_some (pe_un un_neg pe_int)
  refine wpAny_Slice (thn (po_none.run pins s1 σ H1 (fun o H2 => o = none ∧ H2 = H1) I1 ⟨rfl, rfl⟩) fun vl s2 ⟨l, H2, I2, pl, el, e2⟩ => ?_)
  subst el e2
  refine thn (po_none.run pins s2 σ H2 (fun o H3 => o = none ∧ H3 = H2) I2 ⟨rfl, rfl⟩) fun vu s3 ⟨u, H3, I3, pu, eu, e3⟩ => ?_
  subst eu e3
  refine thn (hst.run pins s3 σ H3 (fun o H4 => o = some (-1) ∧ H4 = H3) I3 ⟨1, rfl, -1, rfl, rfl, rfl⟩) fun vs s4 ⟨o, H4, I4, ps, eo, e4⟩ => ?_
  subst eo e4
  have I5 : Inv X pins σ H4 { s4 with heap := s4.heap.push { cls := .type "slice", data := .fields #[vl, vu, vs] } } := I4.kept (t' := s4.toks) fun b ob q => Heap.get?_push_of_some _ q
  show wpAny (model X.prog X.w) X.A (subscriptTail e (.Slice none none (some (.UnaryOp .USub (.Constant (.int 1) k p1) p2)) p3) (.ref a) (.ref s4.heap.objs.size)) (EP X pins σ Q) X.xe { s4 with heap := s4.heap.push { cls := .type "slice", data := .fields #[vl, vu, vs] } }
  rcases q with ⟨hx, q⟩ | ⟨hx, q⟩
  · obtain ⟨its, r, ht, hz⟩ := I5.list hx
    have hlen := r.length
    refine tail_any (ops := [.ref a, .ref s4.heap.objs.size]) ht.isList.typeIs (PySem.slot_list_getitem.lookup) ?_ (by with_unfolding_all rfl)
    refine wpAny_getItem_list_slice ht.isList (Heap.IsSliceOf.new _ vl vu vs) pl pu ps (by decide) ?_ (by rw [List.size_toArray]; omega)
    rw [PySem.W.krv_pick]
    refine ⟨.ref _, _, I5.laid (t' := s4.toks) (o := .lst xs.reverse) (fun b ob q => Heap.get?_push_of_some _ q) (Nat.le_refl _) ?_, rfl, q _ (I5.hok.fresh (Nat.le_refl _))⟩
    exact ⟨by rw [List.length_reverse]; exact hz, _, 0, r.reverse, Heap.get?_push_size _ rfl⟩
  · obtain ⟨its, r, ht, hz⟩ := I5.tuple hx
    have hlen := r.length
    refine tail_any (ops := [.ref a, .ref s4.heap.objs.size]) ht.typeIs (PyProof.Rows.slot_tuple_getitem.lookup) ?_ (by with_unfolding_all rfl)
    refine HT.getItem_tuple_rev ht (Heap.IsSliceOf.new _ vl vu vs) pl pu ps ?_ (by rw [List.size_toArray]; omega)
    refine ⟨.ref _, _, I5.laid (t' := s4.toks) (o := .tup xs.reverse) (fun b ob q => Heap.get?_push_of_some _ q) (Nat.le_refl _) ?_, rfl, q _ (I5.hok.fresh (Nat.le_refl _))⟩
    exact ⟨by rw [List.length_reverse]; exact hz, _, r.reverse, _, Heap.get?_push_size _ rfl, rfl, _, rfl⟩
theorem e_rev (hK : X.K = T.K) {k : Nat} {p1 p2 p3 pos : Pos} (he : PE X e (tE T W fa)) : PE X (.Subscript e (.Slice none none (some (.UnaryOp .USub (.Constant (.int 1) k p1) p2)) p3) pos) (tE T W (sUn gRev fa)) := by
  refine PE.mono (pe_revA he) fun σ H Q ⟨Hz, ρ, F, z, h⟩ => ?_
  refine ⟨Hz, ρ, F, z, Aft.imp (Aft.frd h) fun v H1 ⟨Hz1, F1, d, ρ1, z1, s1, r1, q1⟩ => ?_⟩
  have q4 := q1.fromB s1
  rw [hK]
  cases hg : gRev d with
  | none => rw [hg] at q4; cases q4
  | some b =>
    rw [hg] at q4
    unfold gRev at hg
    split at hg
    · cases hg
      cases r1 with
      | lst h1 k1 => exact ⟨_, _, rfl, .inl ⟨sqL_same z1.sub h1, fun p hp => q4.made z1 (.lst z1.sub hp k1.reverse)⟩⟩
    · cases hg
      cases r1 with
      | tup h1 k1 => exact ⟨_, _, rfl, .inr ⟨seqT_same z1.sub h1, fun p hp => q4.made z1 (.tup z1.sub hp k1.reverse)⟩⟩
    · cases hg
end

/-! ### built-in functions -/
def gLen : List D → Option B
  | [.str z] => if z.length ≤ sizeLine then some (.fr (.int z.length)) else none
  | [.list ds] => some (.fr (.int ds.length))
  | [.tuple ds] => some (.fr (.int ds.length))
  | _ => none
def gMax : List D → Option B
  | [.int i, .int j] => some (.fr (.int (if j > i then j else i)))
  | _ => none
def intsD : List D → Option (List Int)
  | [] => some []
  | .int i :: r => (intsD r).map (i :: ·)
  | _ => none
def minI : List Int → Int
  | [] => 0
  | [i] => i
  | i :: r => if minI r < i then minI r else i
def gMin : List D → Option B
  | [.int i, .int j] => some (.fr (.int (if j < i then j else i)))
  | [.list ds] => match intsD ds with
    | some (i :: is) => some (.fr (.int (minI (i :: is))))
    | _ => none
  | _ => none
theorem minI_cons (i j : Int) (r : List Int) : minI (i :: j :: r) = if minI (j :: r) < i then minI (j :: r) else i := by rw [minI]; simp
theorem minI_spec : ∀ (i : Int) (r : List Int), minI (i :: r) ∈ i :: r ∧ ∀ x ∈ i :: r, minI (i :: r) ≤ x
  | i, [] => ⟨by simp [minI], fun x hx => by rw [List.mem_singleton.mp hx]; simp [minI]⟩
  | i, j :: r => by
    obtain ⟨h1, h2⟩ := minI_spec j r
    rw [minI_cons]
    split
    · rename_i h
      refine ⟨List.mem_cons_of_mem _ h1, fun x hx => ?_⟩
      rcases List.mem_cons.mp hx with e | hx
      · rw [e]; omega
      · exact h2 x hx
    · rename_i h
      refine ⟨List.mem_cons_self, fun x hx => ?_⟩
      rcases List.mem_cons.mp hx with e | hx
      · rw [e]; exact Int.le_refl _
      · have := h2 x hx; omega
theorem ints_some {K : Fg} {Hz : Hp} : ∀ {ds : List D} {is : List Int} {vs : List V}, intsD ds = some is → RepL K Hz vs ds → vs = is.map V.int
  | [], is, _, h, .nil => by cases h; rfl
  | d :: ds, is, _, h, .cons r t => by
    cases d with
    | int i =>
      have h : (intsD ds).map (i :: ·) = some is := h
      cases hs : intsD ds with
      | none => rw [hs] at h; cases h
      | some l =>
        rw [hs] at h; cases h
        rw [int_of r, ints_some hs t]; rfl
    | _ => cases h
theorem ints_at : ∀ {is : List Int} {us : List Value} {i : Nat} {u : Value}, Vals (is.map V.int) us → us[i]? = some u → ∃ t, u = .int (is.getD i 0) t
  | [], _, i, u, .nil, e => by simp at e
  | j :: is, _, 0, u, .cons r t, e => by
    obtain ⟨t, rfl⟩ := r
    simp at e
    exact ⟨t, by rw [← e]; rfl⟩
  | j :: is, _, i + 1, u, .cons r t, e => by
    obtain ⟨k, h⟩ := ints_at (i := i) (u := u) t (by simpa using e)
    exact ⟨k, by rw [h]; simp⟩
def boolsOf : List D → Option (List Bool)
  | [] => some []
  | .bool b :: r => (boolsOf r).map (b :: ·)
  | _ => none
def strsOf : List D → Option (List Str)
  | [] => some []
  | .str b :: r => (strsOf r).map (b :: ·)
  | _ => none
theorem boolsOf_some : ∀ {ds : List D} {bs : List Bool}, boolsOf ds = some bs → ds = bs.map PyData.bool
  | [], bs, h => by cases h; rfl
  | .bool b :: r, bs, h => by
    unfold boolsOf at h
    cases e : boolsOf r with
    | none => rw [e] at h; cases h
    | some cs => rw [e] at h; cases h; rw [List.map_cons, boolsOf_some e]
  | .none :: _, _, h => by cases h
  | .int _ :: _, _, h => by cases h
  | .str _ :: _, _, h => by cases h
  | .list _ :: _, _, h => by cases h
  | .tuple _ :: _, _, h => by cases h
  | .dict _ :: _, _, h => by cases h
theorem strsOf_some : ∀ {ds : List D} {bs : List Str}, strsOf ds = some bs → ds = bs.map PyData.str
  | [], bs, h => by cases h; rfl
  | .str b :: r, bs, h => by
    unfold strsOf at h
    cases e : strsOf r with
    | none => rw [e] at h; cases h
    | some cs => rw [e] at h; cases h; rw [List.map_cons, strsOf_some e]
  | .none :: _, _, h => by cases h
  | .int _ :: _, _, h => by cases h
  | .bool _ :: _, _, h => by cases h
  | .list _ :: _, _, h => by cases h
  | .tuple _ :: _, _, h => by cases h
  | .dict _ :: _, _, h => by cases h
def gAll : List D → Option B
  | [.list ds] => (boolsOf ds).map fun bs => .fr (.bool (bs.all id))
  | _ => none
def gAny : List D → Option B
  | [.list ds] => (boolsOf ds).map fun bs => .fr (.bool (bs.any id))
  | _ => none
def gListOf : List D → Option B
  | [.list ds] => some (.ow (.list ds))
  | [.tuple ds] => some (.ow (.list ds))
  | _ => none
def gTupleOf : List D → Option B
  | [.list ds] => some (.fr (.tuple ds))
  | [.tuple ds] => some (.fr (.tuple ds))
  | _ => none
def gStr : List D → Option B
  | [.int i] => if i.natAbs.log2 < 1920 then some (.fr (.str (toString i))) else none
  | [.bool b] => some (.fr (.str (if b then "True" else "False")))
  | [.str x] => some (.fr (.str x))
  | _ => none
def gInt : List D → Option B
  | [.int i] => some (.fr (.int i))
  | [.bool b] => some (.fr (.int (if b then 1 else 0)))
  | [.str x] => if x.length ≤ 640 then (PySem.intText? x).map fun n => .fr (.int n) else none
  | _ => none
open Classical in
noncomputable def gSorted : List D → Option B
  | [.list ds] => if AllAlike ds ∧ Sortable ds ∧ (∀ d ∈ ds, okEq d = true) ∧ ds.length ≤ sizeLine then some (.ow (.list (ds.mergeSort (dataLe false id)))) else none
  | _ => none
section
variable {X : Cx}
theorem RepL.one {K : Fg} {Hz : Hp} {xs : List V} {d : D} (r : RepL K Hz xs [d]) : ∃ x, xs = [x] ∧ Rep K Hz x d := by
  cases r with
  | cons h t => cases t; exact ⟨_, rfl, h⟩
theorem RepL.two {K : Fg} {Hz : Hp} {xs : List V} {d e : D} (r : RepL K Hz xs [d, e]) : ∃ x y, xs = [x, y] ∧ Rep K Hz x d ∧ Rep K Hz y e := by
  cases r with
  | cons h t =>
    obtain ⟨y, rfl, h2⟩ := t.one
    exact ⟨_, _, rfl, h, h2⟩
theorem c_len : CallR X (.builtin "len") (rOfN X.K gLen) := by
  intro pins s σ H xs us Q I r ⟨Hz, ds, b, hs, rr, hg, q⟩
  unfold gLen at hg
  split at hg
  · rename_i z
    split at hg
    · rename_i hl
      cases hg
      obtain ⟨x, rfl, h1⟩ := rr.one
      exact call_len pins s σ H _ us Q I r ⟨x, z.length, rfl, by rw [str_of h1]; exact ⟨hl, rfl⟩, q _ _ (.here hs (.int _))⟩
    · cases hg
  · cases hg
    obtain ⟨x, rfl, h1⟩ := rr.one
    cases h1 with
    | lst h k => exact call_len pins s σ H _ us Q I r ⟨_, _, rfl, .inl ⟨_, sqL_same hs h, by rw [k.length]⟩, q _ _ (.here hs (.int _))⟩
  · cases hg
    obtain ⟨x, rfl, h1⟩ := rr.one
    cases h1 with
    | tup h k => exact call_len pins s σ H _ us Q I r ⟨_, _, rfl, .inr ⟨_, seqT_same hs h, by rw [k.length]⟩, q _ _ (.here hs (.int _))⟩
  · cases hg
theorem c_max (hc : X.calm = true) : CallR X (.builtin "max") (rOfN X.K gMax) := by
  intro pins s σ H xs us Q I r ⟨Hz, ds, b, hs, rr, hg, q⟩
  unfold gMax at hg
  split at hg
  · cases hg
    obtain ⟨x, y, rfl, h1, h2⟩ := rr.two
    exact call_max2 hc pins s σ H _ us Q I r ⟨_, _, by rw [int_of h1, int_of h2], q _ _ (.here hs (.int _))⟩
  · cases hg
theorem c_min (hc : X.calm = true) : CallR X (.builtin "min") (rOfN X.K gMin) := by
  intro pins s σ H xs us Q I r ⟨Hz, ds, b, hs, rr, hg, q⟩
  unfold gMin at hg
  split at hg
  · cases hg
    obtain ⟨x, y, rfl, h1, h2⟩ := rr.two
    exact call_min2 hc pins s σ H _ us Q I r ⟨_, _, by rw [int_of h1, int_of h2], q _ _ (.here hs (.int _))⟩
  · split at hg
    · rename_i i is e
      cases hg
      obtain ⟨x, rfl, h1⟩ := rr.one
      cases h1 with
      | @lst l xs _ h k =>
        have ev := ints_some e k
        subst ev
        obtain ⟨its, rv, hl, hz⟩ := I.list (sqL_same hs h)
        rw [Vals.ref1 r]
        have hlen := rv.length
        refine call_min_walk (iter_anyList hl.isList fun s₂ e st hfp hlI => ?_)
        subst e
        have hval : ∀ (j : Nat) (v : Value), its.toArray[j]? = some v → ∃ t, v = Value.int ((i :: is).getD j 0) t := fun j v hv => ints_at rv (by simpa using hv)
        refine ⟨_, _, _, _, _, _, _, rfl, Walks.list (A := X.A.in1) (I.ok.hd hc) _ l hlI its.toArray, st, hfp, by rw [List.size_toArray, ← hlen]; simp, CmpOf.ints_lt (fun j => (i :: is).getD j 0) hval, fun v h' tk hP hk => ?_⟩
        obtain ⟨t, rfl⟩ := hval _ v hP
        obtain ⟨b1, b2⟩ := argBest_lt (fun j => (i :: is).getD j 0) (its.toArray.size - 1)
        generalize argBest (fun a b => decide ((i :: is).getD a 0 < (i :: is).getD b 0)) (its.toArray.size - 1) = bb at *
        have hsz : its.toArray.size = (i :: is).length := by rw [List.size_toArray, ← hlen, List.length_map]
        have hbb : bb < (i :: is).length := by rw [hsz] at b1; simp only [List.length_cons] at b1 ⊢; omega
        have eb : (i :: is).getD bb 0 = (i :: is)[bb] := by rw [List.getD_eq_getElem?_getD, List.getElem?_eq_getElem hbb]; rfl
        have em : (i :: is).getD bb 0 = minI (i :: is) := by
          obtain ⟨m1, m2⟩ := minI_spec i is
          have q1 := m2 ((i :: is).getD bb 0) (by rw [eb]; exact List.getElem_mem hbb)
          obtain ⟨j, hj, ej⟩ := List.getElem_of_mem m1
          have q2 := b2 j (by rw [hsz]; simp only [List.length_cons] at hj ⊢; omega)
          have e3 : (i :: is).getD j 0 = minI (i :: is) := by rw [List.getD_eq_getElem?_getD, List.getElem?_eq_getElem hj]; exact ej
          simp only [e3] at q2
          omega
        exact ⟨.int _, H, I.kept (t' := tk) (PySem.old_kept hk), ⟨t, rfl⟩, by rw [em]; exact q _ _ (.here hs (.int _))⟩
    · cases hg
  · cases hg
theorem c_all (hc : X.calm = true) : CallR X (.builtin "all") (rOfN X.K gAll) := by
  intro pins s σ H xs us Q I r ⟨Hz, ds, b, hs, rr, hg, q⟩
  unfold gAll at hg
  split at hg
  · rename_i es
    cases e : boolsOf es with
    | none => rw [e] at hg; cases hg
    | some bs =>
      rw [e] at hg; cases hg
      obtain ⟨x, rfl, h1⟩ := rr.one
      cases h1 with
      | lst h k =>
        rw [boolsOf_some e] at k
        rw [RepL.of_bls k] at h
        exact cr_all hc pins s σ H _ us Q I r ⟨_, bs, rfl, sqL_same hs h, q _ _ (.here hs (.bl _))⟩
  · cases hg
theorem c_any (hc : X.calm = true) : CallR X (.builtin "any") (rOfN X.K gAny) := by
  intro pins s σ H xs us Q I r ⟨Hz, ds, b, hs, rr, hg, q⟩
  unfold gAny at hg
  split at hg
  · rename_i es
    cases e : boolsOf es with
    | none => rw [e] at hg; cases hg
    | some bs =>
      rw [e] at hg; cases hg
      obtain ⟨x, rfl, h1⟩ := rr.one
      cases h1 with
      | lst h k =>
        rw [boolsOf_some e] at k
        rw [RepL.of_bls k] at h
        exact cr_any hc pins s σ H _ us Q I r ⟨_, bs, rfl, sqL_same hs h, q _ _ (.here hs (.bl _))⟩
  · cases hg
theorem c_list : CallR X (.type "list") (rOfN X.K gListOf) := by
  intro pins s σ H xs us Q I r ⟨Hz, ds, b, hs, rr, hg, q⟩
  unfold gListOf at hg
  split at hg
  · cases hg
    obtain ⟨x, rfl, h1⟩ := rr.one
    cases h1 with
    | lst h k => exact call_list_of pins s σ H _ us Q I r ⟨_, _, rfl, .inl (sqL_same hs h), fun l hl => q _ _ (.lst hs hl k)⟩
  · cases hg
    obtain ⟨x, rfl, h1⟩ := rr.one
    cases h1 with
    | tup h k => exact call_list_of pins s σ H _ us Q I r ⟨_, _, rfl, .inr (seqT_same hs h), fun l hl => q _ _ (.lst hs hl k)⟩
  · cases hg
theorem c_tuple : CallR X (.type "tuple") (rOfN X.K gTupleOf) := by
  intro pins s σ H xs us Q I r ⟨Hz, ds, b, hs, rr, hg, q⟩
  unfold gTupleOf at hg
  split at hg
  · cases hg
    obtain ⟨x, rfl, h1⟩ := rr.one
    cases h1 with
    | lst h k => exact call_tuple_of pins s σ H _ us Q I r ⟨_, _, rfl, .inl ⟨sqL_same hs h, fun l hl => q _ _ (.tup hs hl k)⟩⟩
  · cases hg
    obtain ⟨x, rfl, h1⟩ := rr.one
    cases h1 with
    | tup h k ex => exact call_tuple_of pins s σ H _ us Q I r ⟨_, _, rfl, .inr ⟨seqT_same hs h, q _ _ (.here hs (.tup h k ex))⟩⟩
  · cases hg
theorem c_str : CallR X (.type "str") (rOfN X.K gStr) := by
  intro pins s σ H xs us Q I r ⟨Hz, ds, b, hs, rr, hg, q⟩
  unfold gStr at hg
  split at hg
  · split at hg
    · rename_i hl
      cases hg
      obtain ⟨x, rfl, h1⟩ := rr.one
      exact call_str_int pins s σ H _ us Q I r ⟨_, by rw [int_of h1], hl, q _ _ (.here hs (.str _))⟩
    · cases hg
  · cases hg
    obtain ⟨x, rfl, h1⟩ := rr.one
    cases h1
    obtain ⟨u, rfl, r1⟩ := vals1 r
    cases r1
    exact PySem.P.str_of_bool ⟨.str _, H, I.tok _, ⟨_, rfl⟩, q _ _ (.here hs (.str _))⟩
  · cases hg
    obtain ⟨x, rfl, h1⟩ := rr.one
    cases h1
    obtain ⟨u, rfl, t, rfl⟩ := vals1 r
    exact PySem.P.str_of_str ⟨.str _, H, I, ⟨_, rfl⟩, q _ _ (.here hs (.str _))⟩
  · cases hg
theorem c_int : CallR X (.type "int") (rOfN X.K gInt) := by
  intro pins s σ H xs us Q I r ⟨Hz, ds, b, hs, rr, hg, q⟩
  unfold gInt at hg
  split at hg
  · cases hg
    obtain ⟨x, rfl, h1⟩ := rr.one
    exact call_int1 pins s σ H _ us Q I r (.inl ⟨_, by rw [int_of h1], q _ _ (.here hs (.int _))⟩)
  · cases hg
    obtain ⟨x, rfl, h1⟩ := rr.one
    exact call_int1 pins s σ H _ us Q I r (.inr ⟨_, by rw [rep_bl h1], q _ _ (.here hs (.int _))⟩)
  · split at hg
    · rename_i hl
      obtain ⟨x, rfl, h1⟩ := rr.one
      obtain ⟨n, hn, e⟩ := Option.map_eq_some_iff.mp hg
      subst e
      exact call_int_str pins s σ H _ us Q I r ⟨_, n, by rw [str_of h1], hn, hl, q _ _ (.here hs (.int _))⟩
    · cases hg
  · cases hg
theorem each_of {K : Fg} {Hz : Hp} : ∀ {xs : List V} {its : List Value} {ds : List D}, Vals xs its → RepL K Hz xs ds → EachIs (fun (v : Value) (b : V × D) => RelV b.1 v ∧ Rep K Hz b.1 b.2) its (xs.zip ds)
  | _, _, _, .nil, .nil => .nil
  | _, _, _, .cons r t, .cons q u => .cons ⟨r, q⟩ (each_of t u)
theorem back_of {K : Fg} {Hz : Hp} : ∀ {its : List Value} {bs : List (V × D)}, EachIs (fun (v : Value) (b : V × D) => RelV b.1 v ∧ Rep K Hz b.1 b.2) its bs → Vals (bs.map Prod.fst) its ∧ RepL K Hz (bs.map Prod.fst) (bs.map Prod.snd)
  | _, _, .nil => ⟨.nil, .nil⟩
  | _, _, .cons r t => ⟨.cons r.1 (back_of t).1, .cons r.2 (back_of t).2⟩
theorem zip_snd {xs : List V} {ds : List D} (h : xs.length = ds.length) : (xs.zip ds).map Prod.snd = ds := List.map_snd_zip (by omega)
theorem sort_snd (bs : List (V × D)) : (bs.mergeSort (dataLe false Prod.snd)).map Prod.snd = (bs.map Prod.snd).mergeSort (dataLe false id) :=
  List.map_mergeSort fun _ _ _ _ => rfl
theorem c_sorted (hu : X.A.units + 70 < cLine) : CallR X (.builtin "sorted") (rOfN X.K gSorted) := by
  intro pins s σ H xs us Q I r ⟨Hz, ds, b, hs, rr, hg, q⟩
  unfold gSorted at hg
  split at hg
  · rename_i es
    split at hg
    · rename_i hc
      cases hg
      obtain ⟨x, rfl, h1⟩ := rr.one
      cases h1 with
      | @lst a vs _ h k =>
        obtain ⟨its, rv, pl, hz⟩ := I.list (sqL_same hs h)
        rw [Vals.ref1 r]
        have hlen := k.length
        have ee := each_of rv k
        have em : (vs.zip es).map Prod.snd = es := zip_snd hlen
        have hl : s.heap.IsList a its.toArray := pl.isList
        have er : EachIs (fun v (b : V × D) => ∃ as, Reads s.heap v b.2 as) its (vs.zip es) := by
          have key : ∀ {its : List Value} {bs : List (V × D)}, EachIs (fun (v : Value) (b : V × D) => RelV b.1 v ∧ Rep X.K Hz b.1 b.2) its bs → (∀ d ∈ bs.map Prod.snd, okEq d = true) → EachIs (fun v (b : V × D) => ∃ as, Reads s.heap v b.2 as) its bs := by
            intro its bs h
            induction h with
            | nil => exact fun _ => .nil
            | cons h1 _ ih => exact fun ho => .cons (rep_reads I hs h1.2 (ho _ (by simp)) h1.1) (ih fun d hd => ho d (by simp only [List.map_cons, List.mem_cons]; exact .inr hd))
          exact key ee (by rw [em]; exact hc.2.2.1)
        refine PySem.W.sorted_data hl ee er (by rw [em]; exact hc.1) (by rw [em]; exact hc.2.1) (by rw [List.length_zip]; omega) (fun b hb => ?_) fun out ho he => ?_
        · have hm : b.2 ∈ es := by rw [← em]; exact List.mem_map_of_mem hb
          have := SeqAt.depth_of_shaped (hc.2.2.1 _ hm)
          omega
        · obtain ⟨k1, k2⟩ := back_of he
          rw [sort_snd, em] at k2
          obtain ⟨ep, he'⟩ := PyProof.Rows.sortedAll_at s.heap its (List.toArray out)
          have hz2 : ((vs.zip es).mergeSort (dataLe false Prod.snd) |>.map Prod.fst).length ≤ sizeLine := by
            rw [List.length_map, List.length_mergeSort, List.length_zip]; omega
          exact ⟨.ref _, _, I.laid (t' := s.toks) (o := .lst (((vs.zip es).mergeSort (dataLe false Prod.snd)).map Prod.fst)) (fun _ _ => PyProof.Rows.sortedAll_old) (Nat.le_succ _) ⟨hz2, out, ep, k1, he'⟩, rfl, q _ _ (.lst hs (I.hok.fresh (Nat.le_succ _)) k2)⟩
    · cases hg
  · cases hg
end
end FK

set_option Elab.async false
set_option linter.all false
set_option maxRecDepth 100000
/-! FK 12b: enumerate over a tuple. -/
namespace PySem
open Sem (wp)
set_option maxHeartbeats 1000000 in
theorem fk_enum_new {v : Value} {o : Obj} {H : Heap → Prop} (B : Begins v o H) :
    Meets (Builtin.«enumerate.__new__» ⟨[.type "enumerate", v], []⟩) (fun _ R s => H s.heap ∧
      R (.ok (.ret (.ref (s.heap.push o).objs.size))) { s with heap := (s.heap.push o).push { cls := .type "enumerate", data := .fields #[.none, .bool false, .ref s.heap.objs.size, rawInt 0, .none, .none] } }) :=
  .of_wp fun prog w A R s h => by
    obtain ⟨hp, g, d, tk, os⟩ := s; obtain ⟨h1, h⟩ := h
    have hsub := sub_enumerate
    have q1 : ∀ {A' : Around} {E : Value → Shared → Prop} {Q : Value → Shared → Prop}, Q (.ref hp.objs.size) ⟨hp.push o, g, d, tk, os⟩ → wpAny (model prog w) A' (pyIter v) Q E ⟨hp, g, d, tk, os⟩ :=
      fun q => B.iter prog w _ _ ⟨hp, g, d, tk, os⟩ _ h1 q
    wp_walk using q1
    refine wpAny_stack_any fun st => wpAny_pure ?_
    split
    · rename_i c _ _ _ _ _
      cases (c == Value.type "enumerate") <;> (wp_walk using q1; exact ⟨_, rfl, h⟩)
    · wp_walk using q1
      exact ⟨_, rfl, h⟩
theorem fk_enum_call {prog : Program} {w : World} {A : Around} {E : Value → Shared → Prop} {s : Shared} {v : Value} {o : Obj} {H : Heap → Prop} {Q : Value → Shared → Prop} (B : Begins v o H) (h1 : H s.heap)
    (h : ∀ h', IsEnum h' (s.heap.objs.size + 1) s.heap.objs.size 0 .none → h'.get? s.heap.objs.size = some o → h'.objs.size = s.heap.objs.size + 2 → (∀ b u, s.heap.get? b = some u → h'.get? b = some u) → Q (.ref (s.heap.objs.size + 1)) { s with heap := h' }) :
    wpAny (model prog w) A (call (.type "enumerate") [v]) Q E s := by
  refine callType_new F.called_enumerate (by decide) (F.typeCall_enumerate_1 _) (F.newCall_enumerate_1 _) (fun obj => F.args_object_init_2 obj _) F.entry_enumerate_new (fk_enum_new B) ⟨h1, ?_⟩
  have hz : (s.heap.push o).objs.size = s.heap.objs.size + 1 := Heap.size_push ..
  show _ ∧ _
  rw [hz]
  have he : IsEnum ((s.heap.push o).push { cls := .type "enumerate", data := .fields #[.none, .bool false, .ref s.heap.objs.size, rawInt 0, .none, .none] }) (s.heap.objs.size + 1) s.heap.objs.size 0 .none := by
    have q := Heap.get?_push_size (s.heap.push o) (o := { cls := .type "enumerate", data := .fields #[.none, .bool false, .ref s.heap.objs.size, rawInt 0, .none, .none] }) rfl
    rwa [hz] at q
  exact ⟨⟨_, he, rfl⟩, h _ he (Heap.get?_push_of_some _ (Heap.get?_push_size _ B.free)) (by rw [Heap.size_push, hz]) fun b u x => Heap.get?_push_of_some _ (Heap.get?_push_of_some _ x)⟩
theorem fk_enum_end {prog : Program} {w : World} {A : Around} {E : Value → Shared → Prop} {s : Shared} {e it l : Addr} {i : Nat} {items : Array Value} {old : Value} {Q : Option Value → Shared → Prop} (hh : A.handled = none) (he : IsEnum s.heap e it i old) (hit : s.heap.IsTupleIter it l i) (hl : s.heap.IsTuple l items) (hx : items[i]? = none)
    (hQ : ∀ h', Heap.ExtBut it s.heap h' → Q none { s with heap := h' }) : wpAny (model prog w) A (pyNext (.ref e)) Q E s := by
  have hT : s.TypeIs (.ref e) "enumerate" := ⟨_, he, rfl⟩
  unfold pyNext
  refine wpAny_bind (wpAny_attempt (wpAny_callSpecial?_slot (name := Str.ofString "__next__") hT F.slot_enumerate_next (wpAny_call_entry F.slot_enumerate_next hT F.entry_enumerate_next ?_ (F.args_enumerate_next_1 _))))
  show wpAny _ _ (field (.ref e) 2 >>= _) _ _ _
  refine wpAny_bind (wpAny_field he rfl (x := .ref it) rfl ?_)
  refine wpAny_bind (wpAny_nextOf_tuple_end (by simpa using hh) hit hl hx fun h' x he' hx' => ?_)
  obtain ⟨o, ho, hc⟩ := hx'
  exact wpAny_bind (wpAny_isInstance (T := "StopIteration") (b := true) ⟨o, ho, hc⟩ isSubtype_stop (wpAny_pure (hQ _ he')))
end PySem
namespace FK
open PySem PySem.Spec PyProof.Rows L2
/-- the tuple at a, each item in a new pair with its number -/
def IteT (K : Fg) (a : Addr) : It :=
  ⟨fun i H => ∃ (xs : List V) (x : V), SqT K H a xs ∧ xs[i]? = some x, fun i H v H' => ∃ p x, v = .ref p ∧ H p = none ∧ H' = upd H p (.tup [.int (i : Nat), x]) ∧ ∀ xs, SqT K H a xs → xs[i]? = some x, fun i H => ∃ xs : List V, SqT K H a xs ∧ xs.length ≤ i⟩
theorem walk_enumT {K : Fg} {a : Addr} {xs : List V} : Walk (IteT K a) xs.length (fun H => SqT K H a xs) (YPair (fun i => some (.int (i : Nat))) (fun i => xs[i]?)) := by
  refine ⟨fun i _ hi q => ⟨xs, xs[i], q, by simp [hi]⟩, fun _ q => ⟨xs, q, Nat.le_refl _⟩, fun i H v H' _ q y => ?_⟩
  obtain ⟨p, x, h1, h2, h3, h4⟩ := y
  exact ⟨p, .int (i : Nat), x, h1, h2, h3, rfl, h4 xs q⟩
theorem turn_enumT {P : Program} {w : World} {K : Fg} {elts : List Expr} {kk : Nat} {tpos : Pos} (a e it : Addr) :
    Turn P w K (.Tuple elts kk tpos) (IteT K a) [e, it] e (fun i h => (∃ old, IsEnum h e it ((i : Nat) : Int) old) ∧ h.IsTupleIter it a i ∧ e ≠ it) where
  mem := List.mem_cons_self
  obj := fun i h st b hb => by
    obtain ⟨⟨old, he⟩, ⟨o, ho, _, hd⟩, _⟩ := st
    rcases List.mem_cons.mp hb with z | z
    · subst z; exact ⟨_, he, fun v q => nomatch q⟩
    · obtain rfl : b = it := List.mem_singleton.mp z
      exact ⟨o, ho, fun v q => by rw [hd] at q; cases q⟩
  keep := fun i h h' st k => by
    obtain ⟨⟨old, he⟩, hi, hne⟩ := st
    exact ⟨⟨old, k e (by simp) _ he⟩, hi.at fun o q => k it (by simp) o q, hne⟩
  item := by
    intro X hP hw hK hc i pins s σ H E I hf st hg
    subst hP hw hK
    obtain ⟨⟨old, he⟩, hit, hne⟩ := st
    obtain ⟨xs, x, hq, hx⟩ := hg
    obtain ⟨its, rv, p, hz⟩ := I.tuple hq
    obtain ⟨u, hu, ru⟩ := rv.get hx
    have p : s.heap.IsTuple a its.toArray := p
    have hel : e < s.heap.objs.size := Heap.lt_size he
    have hil : it < s.heap.objs.size := by obtain ⟨_, q, _⟩ := hit; exact Heap.lt_size q
    have hea : e ≠ a := fun z => by
      subst z
      obtain ⟨o, ho, hc', _⟩ := id p
      rw [he] at ho; cases ho
      exact absurd (show Value.type "enumerate" = Value.type "tuple" from hc') (by decide)
    have hai : a ≠ it := fun z => by
      subst z
      obtain ⟨o, ho, hc', _⟩ := id p
      obtain ⟨o2, ho2, hc2, _⟩ := id hit
      rw [ho] at ho2; cases ho2
      rw [hc'] at hc2
      exact absurd hc2 (by decide)
    have hu' : its.toArray[i]? = some u := by simpa using hu
    have hlt : i < its.toArray.size := (Array.getElem?_eq_some_iff.mp hu').1
    have hef : e ∉ [it, a] := by simp [hne, hea]
    have D := Draws.tuple (prog := X.prog) (w := X.w) (A := X.A.in1) (by simpa using I.ok.hd hc) it a hai its.toArray
    refine wpAny_pyNext_enum_itemD D he ⟨hit, p⟩ hlt hne hef fun x' h' tk hpx ho hst' hT hsz hk => ?_
    have ex : x' = u := by rw [hu'] at hpx; exact (Option.some.inj hpx).symm
    subst ex
    refine ⟨_, rfl, wpAny_letOwnedTupleGo_enum (s := { s with heap := h', toks := tk + 1 }) ho fun h'' he' sb => ?_⟩
    have hT2 : h''.get? s.heap.objs.size = some { cls := .type "tuple", data := .seq #[.int i tk, x'] } := (sb.2 _ (Nat.ne_of_gt hel)).trans hT
    have new : ObjOk X.prog X.w (upd H s.heap.objs.size (.tup [.int (i : Nat), x])) h'' s.heap.objs.size (.tup [.int (i : Nat), x]) :=
      ⟨by show 2 ≤ sizeLine; decide, [.int i tk, x'], .cons ⟨_, rfl⟩ (.cons ru .nil), ⟨_, hT2, rfl, _, rfl⟩⟩
    have J : Inv X pins σ (upd H s.heap.objs.size (.tup [.int (i : Nat), x])) { s with heap := h'', toks := tk + 1 } :=
      I.turnedNew (t' := tk + 1) (ch := [e, it]) (fun b ob hb q => (sb.2 b (fun z => hb (by simp [z]))).trans (hk b ob (fun z => hb (by simp [z])) (fun z => hb (by simp [z])) q)) hf (Nat.le_refl _) new
    refine ⟨.ref s.heap.objs.size, _, J, rfl, ⟨_, x, rfl, I.hok.fresh (Nat.le_refl _), rfl, fun ys hy => by rw [I.tuple_inj hy hq]; exact hx⟩, ⟨⟨x', ?_⟩, hst'.1.at fun o q => (sb.2 it (Ne.symm hne)).trans q, hne⟩, fun b hb => ?_⟩
    · rw [show ((i + 1 : Nat) : Int) = (i : Int) + 1 by omega]; exact he'
    · have hb' : b < s.heap.objs.size := by
        rcases List.mem_cons.mp hb with z | z
        · rw [z]; exact hel
        · rw [List.mem_singleton.mp z]; exact hil
      rw [upd_ne (Nat.ne_of_lt hb')]
      exact (hf b hb).1
  done := by
    intro X hP hw hK hc i pins s σ H E I hf st hg
    subst hP hw hK
    obtain ⟨⟨old, he⟩, hit, hne⟩ := st
    obtain ⟨xs, hq, hx⟩ := hg
    obtain ⟨its, rv, p, hz⟩ := I.tuple hq
    obtain ⟨f0, f1, f2, f3, f4, f5⟩ := hf it (by simp)
    have hl := rv.length
    have p : s.heap.IsTuple a its.toArray := p
    exact fk_enum_end (I.ok.hd hc) he hit p (by simp; omega) fun h' eb => ⟨rfl, I.turned (t' := s.toks) (fun b o hb q => eb b o hb q) f0 f1 f3 f4 f5⟩
  self := fun A i s Q E st h => let ⟨⟨_, he⟩, _⟩ := st; wpAny_pyIter_enum he h
def iEnumA (K : Fg) (ta : TA) : TI := fun σ H R => ta σ H fun vs H1 => ∃ a xs, vs = [.ref a] ∧ ((SqL K H1 a xs ∧ R (Ite K a) H1) ∨ (SqT K H1 a xs ∧ R (IteT K a) H1))
theorem pi_enumA {X : Cx} {e : Expr} {ta : TA} {p pos tpos : Pos} {elts : List Expr} {kk : Nat} (hg : Gl X "enumerate") (hm : X.mg "enumerate" = none) (ha : PA X [e] ta) (hs : starEach [e] X.env = [(false, eval e X.env)]) :
    PI X (.Tuple elts kk tpos) (.Call (.Name "enumerate" p) [e] [] pos) (iEnumA X.K ta) := by
  refine ⟨fun pins s σ H R I h => ?_⟩
  refine Call_ (ld_blt I hg hm boot_enumerate (PyProof.Rows.callWith_type1 (thn (ha.run pos pins s σ H _ I h) fun us s1 ⟨vs, H1, I1, r1, q1⟩ => ?_) hs rfl))
  obtain ⟨a, xs, ex, q1⟩ := q1
  subst ex
  cases r1 with
  | cons r rr =>
    cases rr
    cases r
    have fresh2 : ∀ b ∈ [s1.heap.objs.size + 1, s1.heap.objs.size], FpOk X pins H1 b := fun b hb => by
      have hle : s1.heap.objs.size ≤ b := by
        rcases List.mem_cons.mp hb with z | z
        · rw [z]; exact Nat.le_add_right _ _
        · rw [List.mem_singleton.mp z]; exact Nat.le_refl _
      exact I1.fpOk hle (I1.hok.fresh hle)
    rcases q1 with ⟨hq, q⟩ | ⟨hq, q⟩
    · obtain ⟨its, rv, p', hz⟩ := I1.list hq
      refine call_enumerate_list p'.isList fun h' he hit hsz hk => wpAny_pyIter_enum he ?_
      exact ⟨s1.heap.objs.size + 1, _, _, _, H1, rfl, I1.kept (t' := s1.toks) hk, turn_enum a (s1.heap.objs.size + 1) s1.heap.objs.size, ⟨⟨.none, he⟩, hit, Nat.succ_ne_self _⟩, fresh2, q⟩
    · obtain ⟨its, rv, p', hz⟩ := I1.tuple hq
      refine fk_enum_call (begins_tuple a its.toArray) p' fun h' he hit hsz hk => wpAny_pyIter_enum he ?_
      exact ⟨s1.heap.objs.size + 1, _, _, _, H1, rfl, I1.kept (t' := s1.toks) hk, turn_enumT a (s1.heap.objs.size + 1) s1.heap.objs.size, ⟨⟨.none, he⟩, ⟨_, hit, rfl, rfl⟩, Nat.succ_ne_self _⟩, fresh2, q⟩
end FK

set_option Elab.async false
set_option linter.all false
set_option maxRecDepth 100000
/-! FK 13: isinstance, texts, iterables, pairs stored. -/
namespace FK
open PySem PySem.Spec PyProof.Rows L2

/-! ### isinstance -/
def tyD : D → String
  | .none => "NoneType"
  | .bool _ => "bool"
  | .int _ => "int"
  | .str _ => "str"
  | .list _ => "list"
  | .tuple _ => "tuple"
  | .dict _ => "dict"
def anyTy (a : String) : List String → Option Bool
  | [] => some false
  | b :: r => match kitB a b with
    | some true => some true
    | some false => anyTy a r
    | none => none
def gIsi (t : String) (d : D) : Option B := (kitB (tyD d) t).map fun b => .fr (.bool b)
def gIsiT (ts : List String) (d : D) : Option B := (anyTy (tyD d) ts).map fun b => .fr (.bool b)
theorem kit_rep {X : Cx} {pins : List (Addr × Obj)} {σ : L2.St} {H Hz : Hp} {s : Shared} {x : V} {u : Value} {d : D} (I : Inv X pins σ H s) (hs : Same Hz H) (r : Rep X.K Hz x d) (rx : RelV x u) :
    ∃ P : Heap → Prop, PySem.W.KitX X.K u (.type (tyD d)) P ∧ P s.heap ∧ u ≠ .builtin "__main__.__loader__#opaque" := by
  cases r with
  | non => exact kit_of I rx (.base .non)
  | bl b => exact kit_of I rx (.base (.bl b))
  | int i => exact kit_of I rx (.base (.int i))
  | str x => exact kit_of I rx (.base (.str x))
  | lst h k =>
    rcases sqL_same hs h with (h | ⟨o, h⟩) | ⟨o, its, n, h1, h2, _⟩
    · exact kit_of I rx (.base (.lst h))
    · exact kit_of I rx (.base (.frz h))
    · exact kit_of I rx (.kList h1 h2)
  | tup h k =>
    rcases seqT_same hs h with (h | ⟨o, h⟩) | ⟨o, its, n, h1, h2, _⟩
    · exact kit_of I rx (.base (.tup h))
    · exact kit_of I rx (.fTuple h)
    · exact kit_of I rx (.kTuple h1 h2)
  | dK h k =>
    rcases rd_same hs h with h | ⟨o, h⟩
    · exact kit_of I rx (.base (.dK h))
    · exact kit_of I rx (.fDict h)
  | @dT a kvs ps h k =>
    rcases rd_same hs h with h | ⟨ob, h⟩
    · exact kit_of I rx (.base (.dT h))
    · cases (show u = Value.ref a from rx)
      obtain ⟨_, _, _, xs, _, o, es, ep, h1, h2, _⟩ := (show ObjOk X.prog X.w H s.heap a (.frz ob (.dT kvs)) from I.hok a _ h)
      exact ⟨_, PySem.W.kitx_dict, ⟨o, h1, h2.1⟩, fun z => nomatch z⟩
def rIsi1 (K : Fg) (t : String) : List V → Hp → VK → Prop := fun xs H Q => ∃ x, xs = [x, .ty t] ∧ rOf1 K (gIsi t) x H Q
def rIsi2 (K : Fg) (ts : List String) : List V → Hp → VK → Prop := fun xs H Q => ∃ x tp, xs = [x, .ref tp] ∧ H tp = some (.tup (ts.map V.ty)) ∧ rOf1 K (gIsiT ts) x H Q
theorem call_isi1 {X : Cx} {t : String} : CallR X (.builtin "isinstance") (rIsi1 X.K t) := by
  intro pins s σ H xs us Q I r ⟨x, e1, Hz, d, b, hs, rr, hg, q⟩
  subst e1
  unfold gIsi at hg
  cases hk : kitB (tyD d) t with
  | none => rw [hk] at hg; cases hg
  | some kk =>
    rw [hk] at hg; cases hg
    obtain ⟨u1, u2, rfl, r1, r2⟩ := vals2 r
    cases (show u2 = Value.type t from r2)
    obtain ⟨P, Z, p, hx⟩ := kit_rep I hs rr r1
    exact PySem.W.kia_one Z I.kIn p (kit_ty hk) hx fun tk => ⟨.bl kk, H, I.tok tk, rfl, q _ _ (.here hs (.bl _))⟩
theorem kitAny_of {K : Fg} {a : String} : ∀ {ts : List String} {b : Bool}, anyTy a ts = some b → PySem.W.kitAny K (.type a) (ts.map Value.type) = some b
  | [], b, h => by cases h; rfl
  | t :: ts, b, h => by
    unfold anyTy at h
    cases hk : kitB a t with
    | none => rw [hk] at h; cases h
    | some kk =>
      rw [hk] at h
      cases kk with
      | true =>
        cases h
        exact kitAny_cons (K := K) (kit_ty hk) (fun z => nomatch z) (fun _ => rfl)
      | false => exact kitAny_cons (K := K) (kit_ty hk) (fun _ => kitAny_of h) (fun z => nomatch z)
theorem cls_tys : ∀ (ts : List String), Paired ClsV (ts.map V.ty) (ts.map Value.type)
  | [] => .nil
  | t :: ts => .cons (.ty t) (cls_tys ts)
theorem call_isi2 {X : Cx} {ts : List String} : CallR X (.builtin "isinstance") (rIsi2 X.K ts) := by
  intro pins s σ H xs us Q I r ⟨x, tp, e1, hT, Hz, d, b, hs, rr, hg, q⟩
  subst e1
  unfold gIsiT at hg
  cases hk : anyTy (tyD d) ts with
  | none => rw [hk] at hg; cases hg
  | some kk =>
    rw [hk] at hg; cases hg
    obtain ⟨u1, u2, rfl, r1, r2⟩ := vals2 r
    cases (show u2 = Value.ref tp from r2)
    obtain ⟨P, Z, p, hx⟩ := kit_rep I hs rr r1
    obtain ⟨_, its, rv, o, h1, h2, n, h3⟩ := (show ObjOk X.prog X.w H s.heap tp (.tup (ts.map V.ty)) from I.hok tp _ hT)
    have e3 := ClsV.all (cls_tys ts) rv
    subst e3
    obtain ⟨oc, od, dt, sl⟩ := o
    simp only at h2 h3
    subst h2 h3
    exact PySem.W.kia_tup Z I.kIn p h1 (kitAny_of hk) hx fun tk => ⟨.bl kk, H, I.tok tk, rfl, q _ _ (.here hs (.bl _))⟩
section
variable {X : Cx} {T : Tx} {W : WX} {e a b : Expr} {es : List Expr} {f fa fb : SE} {fs : SA} {pos p p2 : Pos}
/-- the operand's part of a rule for one datum -/
theorem one {g : D → Option B} {σ : L2.St} {H : Hp} {Q : VK} (h : tE T W (sUn g f) σ H Q) : tE T W f σ H fun x H1 => rOf1 T.K g x H1 Q := by
  obtain ⟨Hz, ρ, F, z, h⟩ := h
  refine ⟨Hz, ρ, F, z, Aft.imp (Aft.frd h) fun v H1 ⟨Hz1, F1, d, ρ1, z1, s1, r1, q1⟩ => ?_⟩
  cases hg : g d with
  | none => rw [hg] at q1; cases q1
  | some b =>
    rw [hg] at q1
    exact ⟨Hz1, d, b, z1.sub, r1, hg, fun v H' n => (q1.fromB s1).made z1 n⟩
/-- a type's name -/
theorem e_tyName {x : Str} {t : String} (hg : Gl X x) (hm : X.mg x = none) (hv : bootBuiltins x = some (.type t)) (hn : x ≠ "__name__") (hd : (x == ("__debug__" : Str)) = false) : PE X (.Name x pos) (tC (.ty t)) := pe_bltn hg hm hv rfl hn hd
theorem e_isi {x : Str} {t : String} (hK : X.K = T.K) (he : PE X e (tE T W f)) (ht : PE X b (tC (.ty t))) (hg : Gl X "isinstance") (hm : X.mg "isinstance" = none)
    (hs : starEach [e, b] X.env = (false, eval e X.env) :: starEach [b] X.env) (hs2 : starEach [b] X.env = (false, eval b X.env) :: starEach [] X.env) (hpl : (backTo pos (starEach [b] X.env)).any (·.1) = false) :
    PE X (.Call (.Name "isinstance" p) [e, b] [] pos) (tE T W (sUn (gIsi t) f)) := by
  refine PE.mono (pe_callB (call_isi1 (t := t)) hg hm boot_isinstance (pa_cons he (pa_cons ht pa_nil hs2) hs) (by decide) (by decide) hs hpl) fun σ H Q h => ?_
  obtain ⟨Hz, ρ, F, z, h⟩ := one h
  refine ⟨Hz, ρ, F, z, Aft.imp h fun v H1 q => ?_⟩
  exact ⟨v, rfl, by rw [hK]; exact q⟩
/-- the types of a tuple -/
inductive TyNames (X : Cx) : List Expr → List String → Prop
  | nil : TyNames X [] []
  | cons {e : Expr} {es : List Expr} {t : String} {ts : List String} : PE X e (tC (.ty t)) → starEach (e :: es) X.env = (false, eval e X.env) :: starEach es X.env → TyNames X es ts → TyNames X (e :: es) (t :: ts)
theorem tys_read {es : List Expr} {ts : List String} (h : TyNames X es ts) : ∃ ta : TA, PA X es ta ∧ ∀ σ H (Q : List V → Hp → Prop), Q (ts.map V.ty) H → ta σ H Q := by
  induction h with
  | nil => exact ⟨_, pa_nil, fun σ H Q q => q⟩
  | cons h1 h2 _ ih =>
    obtain ⟨ta, h3, h4⟩ := ih
    exact ⟨_, pa_cons h1 h3 h2, fun σ H Q q => h4 _ _ _ q⟩
theorem e_isiT {ts : List String} {k : Nat} (hK : X.K = T.K) (he : PE X e (tE T W f)) (ht : TyNames X es ts) (hl : ts.length ≤ sizeLine) (hg : Gl X "isinstance") (hm : X.mg "isinstance" = none)
    (hs : starEach [e, .Tuple es k p2] X.env = (false, eval e X.env) :: starEach [.Tuple es k p2] X.env) (hs2 : starEach [.Tuple es k p2] X.env = (false, eval (.Tuple es k p2) X.env) :: starEach [] X.env) (hpl : (backTo pos (starEach [.Tuple es k p2] X.env)).any (·.1) = false) :
    PE X (.Call (.Name "isinstance" p) [e, .Tuple es k p2] [] pos) (tE T W (sUn (gIsiT ts) f)) := by
  obtain ⟨ta, h3, h4⟩ := tys_read ht
  refine PE.mono (pe_callB (call_isi2 (ts := ts)) hg hm boot_isinstance (pa_cons he (pa_cons (pe_tup h3) pa_nil hs2) hs) (by decide) (by decide) hs hpl) fun σ H Q h => ?_
  obtain ⟨Hz, ρ, F, z, h⟩ := h
  refine ⟨Hz, ρ, F, z, Aft.imp (Aft.frd h) fun v H1 ⟨Hz1, F1, d, ρ1, z1, s1, r1, q1⟩ => ?_⟩
  refine h4 _ _ _ ⟨by rw [List.length_map]; exact hl, fun tp htp => ?_⟩
  refine ⟨v, tp, rfl, upd_same, ?_⟩
  cases hg : gIsiT ts d with
  | none => rw [hg] at q1; cases q1
  | some b =>
    rw [hg] at q1
    rw [hK]
    refine ⟨Hz1, d, b, z1.sub.trans (same_push htp), r1, hg, fun v H' n => ?_⟩
    have z2 : Zone T.K Hz1 (upd H1 tp (.tup (ts.map V.ty))) σ ρ1 F1 := z1.keep (.refl _) (z1.sub.trans (same_push htp)) (fun a ha => upd_ne fun w => by subst w; exact z1.there ha htp) (fun a ha => z1.notIn ha)
    have s2 : Step Hz1 H1 F1 Hz1 (upd H1 tp (.tup (ts.map V.ty))) F1 := ⟨.refl _, fun a o e _ => same_push htp a o e, fun _ h => .inl h, fun a ha => .inr ha, fun a e => by
      obtain ⟨o, e⟩ := ex_of_ne e
      rw [same_push htp a o e]; exact fun z => nomatch z⟩
    exact ((q1.fromB s1).fromB s2).made z2 n

/-! ### texts -/
def txtsOf : List D → Option (List Str)
  | [] => some []
  | .str x :: r => (txtsOf r).map (x :: ·)
  | _ :: _ => none
theorem txts_of {K : Fg} {Hz : Hp} : ∀ {ds : List D} {vs : List V} {ys : List Str}, txtsOf ds = some ys → RepL K Hz vs ds → vs = ys.map V.str
  | [], _, ys, h, .nil => by cases h; rfl
  | d :: ds, _, ys, h, .cons r t => by
    cases d with
    | str x =>
      unfold txtsOf at h
      cases e : txtsOf ds with
      | none => rw [e] at h; cases h
      | some zs =>
        rw [e] at h; cases h
        rw [str_of r, txts_of e t]; rfl
    | _ => cases h
def joinD (a : Str) (ds : List D) : Option B := (txtsOf ds).bind fun ys => if (ys.map (·.length)).sum + ys.length * a.length ≤ 16777216 then some (.fr (.str (Txt.join a ys))) else none
def gJoin (x y : D) : Option B := match x, y with
  | .str a, .list ds => joinD a ds
  | .str a, .tuple ds => joinD a ds
  | _, _ => none
def isStr : D → Bool
  | .str _ => true
  | _ => false
/-- the object of a text's method -/
def sStrM (g : D → D → Option B) (fa fb : SE) : SE := fun ρ => (fa ρ).frd fun x ρ1 => if isStr x = true then (fb ρ1).frd fun y ρ2 => lft (g x y) ρ2 else .bad
theorem isStr_of {K : Fg} {Hz : Hp} {d : D} {v : V} (h : isStr d = true) (r : Rep K Hz v d) : ∃ a, d = .str a ∧ v = .str a := by
  cases d with
  | str a => exact ⟨a, rfl, str_of r⟩
  | _ => cases h
theorem strM {g : D → D → Option B} {r : V → List V → Hp → VK → Prop} (hr : ∀ x y H Q, rOf T.K g x y H Q → r x [y] H Q) {σ : L2.St} {H : Hp} {Q : VK} (h : tE T W (sStrM g fa fb) σ H Q) : tM1 r (tE T W fa) (tE T W fb) σ H Q := by
  obtain ⟨Hz, ρ, F, z, h⟩ := h
  refine ⟨Hz, ρ, F, z, Aft.imp (Aft.frd h) fun v H1 ⟨Hz1, F1, d, ρ1, z1, s1, r1, q1⟩ => ?_⟩
  by_cases hi : isStr d = true
  · rw [if_pos hi] at q1
    obtain ⟨a, rfl, rfl⟩ := isStr_of hi r1
    refine ⟨⟨a, rfl⟩, Hz1, ρ1, F1, z1, Aft.imp (Aft.frd (q1.fromB s1)) fun u H2 ⟨Hz2, F2, e, ρ2, z2, s2, r2, q2⟩ => ?_⟩
    cases hg : g (.str a) e with
    | none => rw [hg] at q2; cases q2
    | some b =>
      rw [hg] at q2
      exact hr _ _ _ _ ⟨Hz2, .str a, e, b, z2.sub, .str a, r2, hg, fun v H' n => (q2.fromB s2).made z2 n⟩
  · rw [if_neg hi] at q1; cases q1
theorem e_join {apos : Pos} (hK : X.K = T.K) (ha : PE X a (tE T W fa)) (hb : PE X b (tE T W fb)) (hs : starEach [b] X.env = [(false, eval b X.env)]) (hbase : attributeBase a "join" X.env (eval a X.env) = eval a X.env) (hline : (apos.endLine == pos.line) = true) :
    PE X (.Call (.Attribute a "join" apos) [b] [] pos) (tE T W (sStrM gJoin fa fb)) := by
  refine PE.mono (pe_join ha hb hs hbase hline) fun σ H Q h => strM (fun x y H Q ⟨Hz, d, e, b, hs, r1, r2, hg, q⟩ => ?_) h
  unfold gJoin at hg
  have key : ∀ {aa : Str} {ds : List D} {vs : List V} {p : Addr}, x = .str aa → y = .ref p → (SqL X.K H p vs ∨ SqT X.K H p vs) → RepL T.K Hz vs ds → joinD aa ds = some b → ∃ a p, ∃ ys : List Str, x = .str a ∧ [y] = [.ref p] ∧ (SqL X.K H p (ys.map V.str) ∨ SqT X.K H p (ys.map V.str)) ∧
      (ys.map (·.length)).sum + ys.length * a.length ≤ 16777216 ∧ Q (.str (Txt.join a ys)) H := by
    intro aa ds vs p e1 e2 e3 e4 e5
    unfold joinD at e5
    cases es : txtsOf ds with
    | none => rw [es] at e5; cases e5
    | some ys =>
      rw [es] at e5
      have e5 : (if (ys.map (·.length)).sum + ys.length * aa.length ≤ 16777216 then some (B.fr (.str (Txt.join aa ys))) else none) = some b := e5
      split at e5
      · rename_i hl
        cases e5
        have ev := txts_of es e4
        subst ev
        exact ⟨aa, p, ys, e1, by rw [e2], e3, hl, q _ _ (.here hs (.str _))⟩
      · cases e5
  split at hg
  · cases r2 with
    | lst h k => exact key (str_of r1) rfl (.inl (by rw [hK]; exact sqL_same hs h)) k hg
  · cases r2 with
    | tup h k => exact key (str_of r1) rfl (.inr (by rw [hK]; exact seqT_same hs h)) k hg
  · cases hg
def gUpper (x : D) : Option B := match x with
  | .str a => if a.length ≤ 5592405 then some (.fr (.str (Txt.upper a))) else none
  | _ => none
def gLower (x : D) : Option B := match x with
  | .str a => if a.length ≤ 5592405 then some (.fr (.str (Txt.lower a))) else none
  | _ => none
def gStrip (x : D) : Option B := match x with
  | .str a => if a.length ≤ sizeLine then some (.fr (.str (Txt.strip a))) else none
  | _ => none
theorem strM0 {g : D → Option B} {r : V → List V → Hp → VK → Prop} (hi : ∀ d b, g d = some b → isStr d = true) (hr : ∀ x H Q, rOf1 T.K g x H Q → r x [] H Q) {σ : L2.St} {H : Hp} {Q : VK} (h : tE T W (sUn g fa) σ H Q) : tM0 r (tE T W fa) σ H Q := by
  obtain ⟨Hz, ρ, F, z, h⟩ := one h
  refine ⟨Hz, ρ, F, z, Aft.imp h fun v H1 q => ?_⟩
  obtain ⟨Hz1, d, b, hs, r1, hg, q2⟩ := id q
  obtain ⟨a, rfl, rfl⟩ := isStr_of (hi d b hg) r1
  exact ⟨⟨a, rfl⟩, hr _ _ _ q⟩
theorem e_upper {apos : Pos} (ha : PE X a (tE T W fa)) (hbase : attributeBase a "upper" X.env (eval a X.env) = eval a X.env) (hline : (apos.endLine == pos.line) = true) :
    PE X (.Call (.Attribute a "upper" apos) [] [] pos) (tE T W (sUn gUpper fa)) := by
  refine PE.mono (pe_upper ha hbase hline) fun σ H Q h => strM0 (fun d b hg => ?_) (fun x H Q ⟨Hz, d, b, hs, r1, hg, q⟩ => ?_) h
  · cases d <;> first | rfl | cases hg
  · unfold gUpper at hg
    split at hg
    · split at hg
      · rename_i hl; cases hg
        exact ⟨_, str_of r1, rfl, hl, q _ _ (.here hs (.str _))⟩
      · cases hg
    · cases hg
theorem e_lower {apos : Pos} (ha : PE X a (tE T W fa)) (hbase : attributeBase a "lower" X.env (eval a X.env) = eval a X.env) (hline : (apos.endLine == pos.line) = true) :
    PE X (.Call (.Attribute a "lower" apos) [] [] pos) (tE T W (sUn gLower fa)) := by
  refine PE.mono (pe_lower ha hbase hline) fun σ H Q h => strM0 (fun d b hg => ?_) (fun x H Q ⟨Hz, d, b, hs, r1, hg, q⟩ => ?_) h
  · cases d <;> first | rfl | cases hg
  · unfold gLower at hg
    split at hg
    · split at hg
      · rename_i hl; cases hg
        exact ⟨_, str_of r1, rfl, hl, q _ _ (.here hs (.str _))⟩
      · cases hg
    · cases hg
end

/-! ### iterables -/
def itD : D → Option (List D)
  | .list ds => some ds
  | .tuple ds => some ds
  | .str x => some (x.cps.toList.map fun c => .str ⟨#[c]⟩)
  | _ => none
def iSeq (f : SE) : SI := fun ρ => (f ρ).frd fun d ρ1 => lft (itD d) ρ1
theorem it_list {K : Fg} {Hz : Hp} {a : Addr} {xs : List V} {ds : List D} (h : SqL K Hz a xs) (k : RepL K Hz xs ds) : IterOk K Hz ds (Itl K a) :=
  ⟨fun H => SqL K H a xs, YAt xs, by rw [← k.length]; exact walk_list (K := K) (a := a) (xs := xs), fun H sm => sqL_same sm h, fun i H x H' Hz2 _ ⟨e1, e2⟩ s1 s2 => by
    obtain ⟨d, h1, h2⟩ := k.get e2
    subst e1
    exact ⟨d, h1, .here s2 (h2.mono s1)⟩⟩
theorem it_tup {K : Fg} {Hz : Hp} {a : Addr} {xs : List V} {ds : List D} (h : SqT K Hz a xs) (k : RepL K Hz xs ds) : IterOk K Hz ds (Itt K a) :=
  ⟨fun H => SqT K H a xs, YAt xs, by rw [← k.length]; exact walk_tup (K := K) (a := a) (xs := xs), fun H sm => seqT_same sm h, fun i H x H' Hz2 _ ⟨e1, e2⟩ s1 s2 => by
    obtain ⟨d, h1, h2⟩ := k.get e2
    subst e1
    exact ⟨d, h1, .here s2 (h2.mono s1)⟩⟩
theorem it_str {K : Fg} {Hz : Hp} {x : Str} : IterOk K Hz (x.cps.toList.map fun c => .str ⟨#[c]⟩) (Its x) :=
  ⟨fun _ => True, fun i H v H' => H' = H ∧ ∃ c, x.cps[i]? = some c ∧ v = .str ⟨#[c]⟩, by
    have e : (x.cps.toList.map fun c => PyData.str ⟨#[c]⟩).length = x.cps.size := by simp
    rw [e]; exact walk_str (z := x), fun H sm => True.intro, fun i H v H' Hz2 _ ⟨e1, c, e2, e3⟩ s1 s2 => by
    subst e1 e3
    exact ⟨.str ⟨#[c]⟩, by rw [List.getElem?_map]; simp [e2], .here s2 (.str _)⟩⟩
section
variable {X : Cx} {T : Tx} {W : WX} {e a b tg : Expr} {es : List Expr} {f fa fb : SE} {fs : SA} {pos p p2 : Pos}
theorem pi_mono {X : Cx} {tg e : Expr} {t t' : TI} (h : PI X tg e t) (f : ∀ σ H R, t' σ H R → t σ H R) : PI X tg e t' := ⟨fun pins s σ H R I q => h.run pins s σ H R I (f σ H R q)⟩
/-- a list, a tuple, a text, by the value -/
theorem pi_seqA {te : TE} (he : PE X e te) : PI X tg e (fun σ H R => te σ H fun v H1 => (∃ a, v = .ref a ∧ (∃ xs, SqL X.K H1 a xs) ∧ R (Itl X.K a) H1) ∨ (∃ a, v = .ref a ∧ (∃ xs, SqT X.K H1 a xs) ∧ R (Itt X.K a) H1) ∨ ∃ x, v = .str x ∧ R (Its x) H1) := by
  refine ⟨fun pins s σ H R I h => ?_⟩
  refine thn (he.run pins s σ H _ I h) fun v s1 ⟨x, H1, I1, r1, q1⟩ => ?_
  rcases q1 with ⟨a, e, ⟨xs, hq⟩, q⟩ | ⟨a, e, ⟨xs, hq⟩, q⟩ | ⟨x', e, q⟩
  · subst e
    cases r1
    obtain ⟨its, rv, p, hz⟩ := I1.list hq
    refine wpAny_pyIter_list p.isList ?_
    refine ⟨s1.heap.objs.size, [s1.heap.objs.size], _, _, H1, rfl, I1.kept (t' := s1.toks) fun b o e => Heap.get?_push_of_some _ e, turn_list a _, ⟨_, Heap.get?_push_size _ rfl, rfl, rfl⟩, fun b hb => ?_, q⟩
    have e : b = s1.heap.objs.size := by simpa using hb
    subst e
    exact I1.fpOk (Nat.le_refl _) (I1.hok.fresh (Nat.le_refl _))
  · subst e
    cases r1
    obtain ⟨its, rv, p, hz⟩ := I1.tuple hq
    refine wpAny_pyIter_tuple (show s1.heap.IsTuple a its.toArray from p) ?_
    refine ⟨s1.heap.objs.size, [s1.heap.objs.size], _, _, H1, rfl, I1.kept (t' := s1.toks) fun b o e => Heap.get?_push_of_some _ e, turn_tuple a _, ⟨_, Heap.get?_push_size _ rfl, rfl, rfl⟩, fun b hb => ?_, q⟩
    have e : b = s1.heap.objs.size := by simpa using hb
    subst e
    exact I1.fpOk (Nat.le_refl _) (I1.hok.fresh (Nat.le_refl _))
  · subst e
    obtain ⟨t, rfl⟩ := r1
    cases ha : x'.cps.all (· < 128)
    · exact wpAny_pyIter_wide ha (pi_one (tk := s1.toks) I1 _ (turn_str _ x' t "str_iterator" (.inr rfl)) ⟨_, Heap.get?_push_size _ rfl, rfl, rfl⟩ q)
    · exact wpAny_pyIter_ascii ha (pi_one (tk := s1.toks) I1 _ (turn_str _ x' t "str_ascii_iterator" (.inl rfl)) ⟨_, Heap.get?_push_size _ rfl, rfl, rfl⟩ q)
theorem i_seq (hK : X.K = T.K) (he : PE X e (tE T W f)) : PI X tg e (tI T W (iSeq f)) := by
  refine pi_mono (pi_seqA he) fun σ H R ⟨Hz, ρ, F, z, h⟩ => ?_
  refine ⟨Hz, ρ, F, z, Aft.imp (Aft.frd h) fun v H1 ⟨Hz1, F1, d, ρ1, z1, s1, r1, q1⟩ => ?_⟩
  have q2 : Aft T W Hz1 H1 F1 σ (PIt T.K) _ R := q1.from s1 fun _ _ _ _ _ p => p
  rw [hK]
  cases hd : itD d with
  | none => rw [hd] at q2; cases q2
  | some ds =>
    rw [hd] at q2
    unfold itD at hd
    split at hd
    · cases hd
      cases r1 with
      | lst h k => exact .inl ⟨_, rfl, ⟨_, sqL_same z1.sub h⟩, q2 _ Hz1 H1 F1 z1 .refl (it_list h k)⟩
    · cases hd
      cases r1 with
      | tup h k => exact .inr (.inl ⟨_, rfl, ⟨_, seqT_same z1.sub h⟩, q2 _ Hz1 H1 F1 z1 .refl (it_tup h k)⟩)
    · cases hd
      exact .inr (.inr ⟨_, str_of r1, q2 _ Hz1 H1 F1 z1 .refl it_str⟩)
    · cases hd
open Classical in
/-- a number that range takes (by choice: nothing is to be reckoned out here) -/
noncomputable def rgOk (i : Int) : Bool := @decide (-4611686018427387904 ≤ i ∧ i < 4611686018427387904) (Classical.propDecidable _)
theorem rgOk_of {i : Int} (h : rgOk i = true) : -(2 ^ 62) ≤ i ∧ i < 2 ^ 62 := by
  unfold rgOk at h
  have h := @of_decide_eq_true _ (Classical.propDecidable _) h
  have e : (2 : Int) ^ 62 = 4611686018427387904 := by decide
  rw [e]; exact h
def rngL (i : Int) (n : Nat) : List D := (List.range n).map fun (k : Nat) => .int (i + k)
noncomputable def gRng1 : List D → Option (List D)
  | [.int j] => if rgOk j = true then some (rngL 0 j.toNat) else none
  | _ => none
noncomputable def gRng2 : List D → Option (List D)
  | [.int i, .int j] => if rgOk i = true ∧ rgOk j = true then some (rngL i (j - i).toNat) else none
  | _ => none
def iRng (g : List D → Option (List D)) (fs : SA) : SI := fun ρ => (fs ρ).bnd fun ds ρ1 => lft (g ds) ρ1
theorem it_rng {K : Fg} {Hz : Hp} {i : Int} {n : Nat} : IterOk K Hz (rngL i n) (Itr i n) :=
  ⟨fun _ => True, YFn fun k => .int (i + k), by
    have e : (rngL i n).length = n := by simp [rngL]
    rw [e]; exact walk_range (lo := i) (n := n), fun H sm => True.intro, fun k H v H' Hz2 hk ⟨e1, e2⟩ s1 s2 => by
    subst e1 e2
    have hk : k < n := by simpa [rngL] using hk
    refine ⟨.int (i + k), ?_, .here s2 (.int _)⟩
    unfold rngL
    rw [List.getElem?_map, List.getElem?_range hk]; rfl⟩
theorem RepL.ge {K : Fg} {Hz : Hp} {vs : List V} {d : D} {ds : List D} (r : RepL K Hz vs (d :: ds)) : ∃ v ws, vs = v :: ws ∧ Rep K Hz v d ∧ RepL K Hz ws ds := by
  cases r with
  | cons r t => exact ⟨_, _, rfl, r, t⟩
theorem i_rng1 (hg : Gl X "range") (hm : X.mg "range" = none) (ha : PA X [a] (tA T W fs)) (hs : starEach [a] X.env = [(false, eval a X.env)]) : PI X tg (.Call (.Name "range" p) [a] [] pos) (tI T W (iRng gRng1 fs)) := by
  refine pi_mono (pi_range1 hg hm ha hs) fun σ H R ⟨Hz, ρ, F, z, h⟩ => ?_
  refine ⟨Hz, ρ, F, z, Aft.imp (Aft.bnd (P := PL T.K) h) fun vs H1 ⟨Hz1, F1, ds, ρ1, z1, s1, r1, q1⟩ => ?_⟩
  have q2 : Aft T W Hz1 H1 F1 σ (PIt T.K) _ R := q1.from s1 fun _ _ _ _ _ p => p
  cases hd : gRng1 ds with
  | none => rw [hd] at q2; cases q2
  | some es =>
    rw [hd] at q2
    unfold gRng1 at hd
    split at hd
    · split at hd
      · rename_i hj
        cases hd
        obtain ⟨v, ws, rfl, r, t⟩ := RepL.ge r1
        cases t
        obtain ⟨k1, k2⟩ := rgOk_of hj
        exact ⟨_, by rw [int_of r], k1, k2, q2 _ Hz1 H1 F1 z1 .refl it_rng⟩
      · cases hd
    · cases hd
theorem i_rng2 (hg : Gl X "range") (hm : X.mg "range" = none) (ha : PA X [a, b] (tA T W fs)) (hs : starEach [a, b] X.env = [(false, eval a X.env), (false, eval b X.env)]) (hs2 : starEach [b] X.env = [(false, eval b X.env)]) :
    PI X tg (.Call (.Name "range" p) [a, b] [] pos) (tI T W (iRng gRng2 fs)) := by
  refine pi_mono (pi_range2 hg hm ha hs hs2) fun σ H R ⟨Hz, ρ, F, z, h⟩ => ?_
  refine ⟨Hz, ρ, F, z, Aft.imp (Aft.bnd (P := PL T.K) h) fun vs H1 ⟨Hz1, F1, ds, ρ1, z1, s1, r1, q1⟩ => ?_⟩
  have q2 : Aft T W Hz1 H1 F1 σ (PIt T.K) _ R := q1.from s1 fun _ _ _ _ _ p => p
  cases hd : gRng2 ds with
  | none => rw [hd] at q2; cases q2
  | some es =>
    rw [hd] at q2
    unfold gRng2 at hd
    split at hd
    · split at hd
      · rename_i hj
        cases hd
        obtain ⟨v, ws, rfl, r, t⟩ := RepL.ge r1
        obtain ⟨v2, ws2, rfl, r2, t2⟩ := RepL.ge t
        cases t2
        obtain ⟨k1, k2⟩ := rgOk_of hj.1
        obtain ⟨k3, k4⟩ := rgOk_of hj.2
        exact ⟨_, _, by rw [int_of r, int_of r2], ⟨k1, k2, k3, k4⟩, q2 _ Hz1 H1 F1 z1 .refl it_rng⟩
      · cases hd
    · cases hd
/-! ### enumerate, zip -/
def pairsAt (ds es : List D) : List D := List.zipWith (fun x y => .tuple [x, y]) ds es
theorem it_pairs {K : Fg} {Hz : Hp} {J : It} {G : Hp → Prop} {xs ys : Nat → Option V} {ds es : List D} (wk : Walk J (pairsAt ds es).length G (YPair xs ys)) (hG : ∀ H, Same Hz H → G H) (hx : ∀ i v, i < (pairsAt ds es).length → xs i = some v → ∃ d, ds[i]? = some d ∧ Rep K Hz v d) (hy : ∀ i v, ys i = some v → ∃ d, es[i]? = some d ∧ Rep K Hz v d) : IterOk K Hz (pairsAt ds es) J :=
  ⟨G, YPair xs ys, wk, hG, fun i H v H' Hz2 hi ⟨t, x, y, e1, e2, e3, e4, e5⟩ s1 s2 => by
    subst e1 e3
    obtain ⟨d, h1, r1⟩ := hx i x hi e4
    obtain ⟨e, h2, r2⟩ := hy i y e5
    refine ⟨.tuple [d, e], ?_, .tup s2 e2 (.cons (r1.mono s1) (.cons (r2.mono s1) .nil))⟩
    unfold pairsAt
    rw [List.getElem?_zipWith, h1, h2]⟩
def gEnum : List D → Option (List D)
  | [.list ds] => some (pairsAt (rngL 0 ds.length) ds)
  | [.tuple ds] => some (pairsAt (rngL 0 ds.length) ds)
  | _ => none
def gZip : List D → Option (List D)
  | [.list ds, .list es] => some (pairsAt ds es)
  | [.tuple ds, .tuple es] => some (pairsAt ds es)
  | _ => none
theorem walk_zipT {K : Fg} {a b : Addr} {xs ys : List V} {n : Nat} (hn : n = min xs.length ys.length) : Walk (RZ.ItzT K a b) n (fun H => SqT K H a xs ∧ SqT K H b ys) (YPair (fun i => xs[i]?) (fun i => ys[i]?)) := by
  subst hn
  refine ⟨fun i _ hi q => ?_, fun _ q => ⟨xs, ys, q.1, q.2, by omega⟩, fun i H v H' _ q y => ?_⟩
  · have h1 : i < xs.length := by omega
    have h2 : i < ys.length := by omega
    exact ⟨xs, ys, xs[i], ys[i], q.1, q.2, by simp [h1], by simp [h2]⟩
  · obtain ⟨T, x, z, h1, h2, h3, h4, h5⟩ := y
    exact ⟨T, x, z, h1, h2, h3, h4 xs q.1, h5 ys q.2⟩
theorem i_enum {elts : List Expr} {kk : Nat} {tpos : Pos} (hK : X.K = T.K) (hg : Gl X "enumerate") (hm : X.mg "enumerate" = none) (ha : PA X [a] (tA T W fs)) (hs : starEach [a] X.env = [(false, eval a X.env)]) :
    PI X (.Tuple elts kk tpos) (.Call (.Name "enumerate" p) [a] [] pos) (tI T W (iRng gEnum fs)) := by
  refine pi_mono (pi_enumA hg hm ha hs) fun σ H R ⟨Hz, ρ, F, z, h⟩ => ?_
  refine ⟨Hz, ρ, F, z, Aft.imp (Aft.bnd (P := PL T.K) h) fun vs H1 ⟨Hz1, F1, ds, ρ1, z1, s1, r1, q1⟩ => ?_⟩
  have q2 : Aft T W Hz1 H1 F1 σ (PIt T.K) _ R := q1.from s1 fun _ _ _ _ _ p => p
  rw [hK]
  cases hd : gEnum ds with
  | none => rw [hd] at q2; cases q2
  | some es =>
    rw [hd] at q2
    unfold gEnum at hd
    split at hd
    · rename_i es'
      cases hd
      obtain ⟨v, ws, rfl, r, t⟩ := RepL.ge r1
      cases t
      cases r with
      | @lst a xs _ h k =>
        have hl := k.length
        have elen : (pairsAt (rngL 0 es'.length) es').length = xs.length := by unfold pairsAt rngL; simp [hl]
        refine ⟨a, xs, rfl, .inl ⟨sqL_same z1.sub h, q2 _ Hz1 H1 F1 z1 .refl (it_pairs (G := fun H => SqL T.K H a xs) (xs := fun i => some (.int (i : Nat))) (ys := fun i => xs[i]?) (by rw [elen]; exact walk_enum) (fun H sm => sqL_same sm h) (fun i v hi hv => ?_) fun i v hv => k.get hv)⟩⟩
        cases hv
        have hi2 : i < es'.length := by rw [elen] at hi; omega
        refine ⟨.int i, ?_, .int _⟩
        unfold rngL
        rw [List.getElem?_map, List.getElem?_range hi2]
        show some (PyData.int (0 + (i : Int))) = _
        rw [Int.zero_add]
    · rename_i es'
      cases hd
      obtain ⟨v, ws, rfl, r, t⟩ := RepL.ge r1
      cases t
      cases r with
      | @tup a xs _ h k =>
        have hl := k.length
        have elen : (pairsAt (rngL 0 es'.length) es').length = xs.length := by unfold pairsAt rngL; simp [hl]
        refine ⟨a, xs, rfl, .inr ⟨seqT_same z1.sub h, q2 _ Hz1 H1 F1 z1 .refl (it_pairs (G := fun H => SqT T.K H a xs) (xs := fun i => some (.int (i : Nat))) (ys := fun i => xs[i]?) (by rw [elen]; exact walk_enumT) (fun H sm => seqT_same sm h) (fun i v hi hv => ?_) fun i v hv => k.get hv)⟩⟩
        cases hv
        have hi2 : i < es'.length := by rw [elen] at hi; omega
        refine ⟨.int i, ?_, .int _⟩
        unfold rngL
        rw [List.getElem?_map, List.getElem?_range hi2]
        show some (PyData.int (0 + (i : Int))) = _
        rw [Int.zero_add]
    · cases hd
theorem i_zip {elts : List Expr} {kk : Nat} {tpos : Pos} (hK : X.K = T.K) (hg : Gl X "zip") (hm : X.mg "zip" = none) (ha : PA X [a, b] (tA T W fs)) (hs : starEach [a, b] X.env = (false, eval a X.env) :: starEach [b] X.env) (hpl : (backTo pos (starEach [b] X.env)).any (·.1) = false) :
    PI X (.Tuple elts kk tpos) (.Call (.Name "zip" p) [a, b] [] pos) (tI T W (iRng gZip fs)) := by
  refine pi_mono (RZ.pi_zipA hg hm ha hs hpl) fun σ H R ⟨Hz, ρ, F, z, h⟩ => ?_
  refine ⟨Hz, ρ, F, z, Aft.imp (Aft.bnd (P := PL T.K) h) fun vs H1 ⟨Hz1, F1, ds, ρ1, z1, s1, r1, q1⟩ => ?_⟩
  have q2 : Aft T W Hz1 H1 F1 σ (PIt T.K) _ R := q1.from s1 fun _ _ _ _ _ p => p
  rw [hK]
  cases hd : gZip ds with
  | none => rw [hd] at q2; cases q2
  | some es =>
    rw [hd] at q2
    unfold gZip at hd
    split at hd
    · rename_i es1 es2
      cases hd
      obtain ⟨v, ws, rfl, r, t⟩ := RepL.ge r1
      obtain ⟨v2, ws2, rfl, r', t2⟩ := RepL.ge t
      cases t2
      cases r with
      | @lst a xs _ h k =>
        cases r' with
        | @lst b ys _ h' k' =>
          have hl := k.length
          have hl' := k'.length
          have elen : (pairsAt es1 es2).length = min xs.length ys.length := by unfold pairsAt; simp [hl, hl']
          exact ⟨a, b, xs, ys, rfl, .inl ⟨sqL_same z1.sub h, sqL_same z1.sub h', q2 _ Hz1 H1 F1 z1 .refl (it_pairs (walk_zip elen) (fun H sm => ⟨sqL_same sm h, sqL_same sm h'⟩) (fun i v _ hv => k.get hv) fun i v hv => k'.get hv)⟩⟩
    · rename_i es1 es2
      cases hd
      obtain ⟨v, ws, rfl, r, t⟩ := RepL.ge r1
      obtain ⟨v2, ws2, rfl, r', t2⟩ := RepL.ge t
      cases t2
      cases r with
      | @tup a xs _ h k =>
        cases r' with
        | @tup b ys _ h' k' =>
          have hl := k.length
          have hl' := k'.length
          have elen : (pairsAt es1 es2).length = min xs.length ys.length := by unfold pairsAt; simp [hl, hl']
          exact ⟨a, b, xs, ys, rfl, .inr ⟨seqT_same z1.sub h, seqT_same z1.sub h', q2 _ Hz1 H1 F1 z1 .refl (it_pairs (walk_zipT elen) (fun H sm => ⟨seqT_same sm h, seqT_same sm h'⟩) (fun i v _ hv => k.get hv) fun i v hv => k'.get hv)⟩⟩
    · cases hd
end
end FK

set_option Elab.async false
set_option linter.all false
set_option maxRecDepth 100000
/-! FK 14: two names stored at once; a def's names. -/
namespace FK
open PySem PySem.Spec PyProof.Rows L2

/-- a, b = e1, e2 -/
def sPar (k1 k2 : Bool) (i j : Nat) (fa fb : SE) : SS := fun ρ => (fa ρ).bS fun b1 ρ1 => match frB k1 b1 with
  | none => .bad
  | some c1 => (fb ρ1).bS fun b2 ρ2 => match frB k2 b2 with
    | none => .bad
    | some c2 => if i < ρ2.length ∧ j < ρ2.length then .nx ((ρ2.set i c1).set j c2) else .bad
section
variable {X : Cx} {T : Tx} {W : WX} {P : List Nat} {a b : Expr} {fa fb : SE} {pos px py pt pt2 : Pos} {kt k2 : Nat}
theorem Zone.pushT {K : Fg} {Hz H : Hp} {σ : L2.St} {ρ : Env} {F : Nat → List Addr} {p : Addr} {o : HO} (z : Zone K Hz H σ ρ F) (h : H p = none) : Zone K Hz (upd H p o) σ ρ F :=
  z.keep (.refl _) (z.sub.trans (same_push h)) (fun a ha => upd_ne fun w => by subst w; exact z.there ha h) (fun a ha => z.notIn ha)
theorem Step.pushT {Hz H : Hp} {F : Nat → List Addr} {p : Addr} {o : HO} (h : H p = none) : Step Hz H F Hz (upd H p o) F :=
  ⟨.refl _, fun a o e _ => same_push h a o e, fun _ h => .inl h, fun a ha => .inr ha, fun a e => by
    obtain ⟨o, e⟩ := ex_of_ne e
    rw [same_push h a o e]; exact fun z => nomatch z⟩
theorem par_core {q1 q2 : Bool} {i j : Nat} {σ : L2.St} {H : Hp} {D : Ends} (hPi : i ∉ P) (hPj : j ∉ P) (h : tS T W P (sPar q1 q2 i j fa fb) D σ H) :
    tE T W fa σ H fun v H1 => tE T W fb σ H1 fun u H2 => D.nx ((σ.set i (some v)).set j (some u)) H2 ∧ ∀ p, H2 p = none → D.nx ((σ.set i (some v)).set j (some u)) (upd H2 p (.tup [v, u])) := by
  obtain ⟨Hz, ρ, F, z, h⟩ := h
  refine ⟨Hz, ρ, F, z, Aft.imp (AftS.bS (PP := PB T.K F) h) fun v H1 ⟨Hz1, F1, b1, ρ1, z1, s1, r1, q⟩ => ?_⟩
  cases e1 : frB q1 b1 with
  | none => rw [e1] at q; cases q
  | some c1 =>
    rw [e1] at q
    obtain ⟨Hz2, fp, z2, s2, m2, k2⟩ := keepB e1 z1 s1 r1
    have q : AftS T W P Hz H F σ ((fb ρ1).bS fun b2 ρ2 => match frB q2 b2 with
      | none => .bad
      | some c2 => if i < ρ2.length ∧ j < ρ2.length then .nx ((ρ2.set i c1).set j c2) else .bad) D := q
    refine ⟨Hz2, ρ1, F1, z2, ?_⟩
    cases eb : fb ρ1 with
    | bad => rw [eb] at q; cases q
    | exc x ρ2 => rw [eb] at q; exact fun cls d Hz' H' F' z st xr => q cls d σ Hz' H' F' z (s2.trans st) (.refl _ _) xr
    | ok b2 ρ2 =>
      rw [eb] at q
      intro u Hz3 H2 F2 z3 s3 r3
      have q : AftS T W P Hz H F σ (match frB q2 b2 with
        | none => .bad
        | some c2 => if i < ρ2.length ∧ j < ρ2.length then .nx ((ρ2.set i c1).set j c2) else .bad) D := q
      cases e2 : frB q2 b2 with
      | none => rw [e2] at q; cases q
      | some c2 =>
        rw [e2] at q
        have q : AftS T W P Hz H F σ (if i < ρ2.length ∧ j < ρ2.length then .nx ((ρ2.set i c1).set j c2) else .bad) D := q
        obtain ⟨Hz4, fp2, z4, s4, m4, k4⟩ := keepB e2 z3 s3 r3
        by_cases hl : i < ρ2.length ∧ j < ρ2.length
        · rw [if_pos hl] at q
          have st : ∀ a ∈ fp, H2 a = H1 a ∧ Hz4 a = none ∧ ¬ Own F2 a := fun a ha => by
            obtain ⟨k5, k6, k7⟩ := k2 a ha
            have hne := m2.there ha
            obtain ⟨o, ho⟩ := ex_of_ne hne
            refine ⟨by rw [s4.fr a o ho k6, ho], ?_, fun w => ?_⟩
            · cases e : Hz4 a with
              | none => rfl
              | some o' =>
                rcases s4.nz a (by rw [e]; exact fun w => nomatch w) with w | w | w
                · exact absurd k5 w
                · exact absurd w hne
                · exact absurd w k6
            · rcases s4.no a w with w | w
              · exact hne w
              · exact k6 w
          have m5 : MRep T.K Hz4 H2 fp v c1 := m2.keep s4.z fun a ha => (st a ha).1
          have z5 := z4.store hl.1 m5 fun a ha => ⟨(st a ha).2.1, (st a ha).2.2⟩
          have z6 := z5.store (i := j) (by rw [List.length_set]; exact hl.2) m4 fun a ha => ⟨(k4 a ha).1, fun w => by
            rcases own_put w with w | ⟨l, _, w⟩
            · rcases (k4 a ha).2.2 with w2 | w2
              · exact m2.there w w2
              · exact (k2 a w).2.1 w2
            · exact (k4 a ha).2.1 ⟨l, w⟩⟩
          have s6 : Step Hz H F Hz4 H2 (putF (putF F2 i fp) j fp2) := ((s2.trans s4).storeAt fun a ha => (k2 a ha).2.2).storeAt fun a ha => by
            rcases (k4 a ha).2.2 with w | w
            · left
              cases e : H a with
              | none => rfl
              | some o => exact absurd w (s2.dom a (by rw [e]; exact fun z => nomatch z))
            · exact s2.no a w
          have pr : Prot P σ ((σ.set i (some v)).set j (some u)) := (chg_set (i := i)).trans (chg_set (i := j)) |>.prot fun l hp hm => by
            have : l = i ∨ l = j := by simpa using hm
            rcases this with e | e
            · subst e; exact hPi hp
            · subst e; exact hPj hp
          exact ⟨q _ Hz4 H2 _ z6 s6 pr, fun p hp => q _ Hz4 _ _ (z6.pushT hp) (s6.trans (.pushT hp)) pr⟩
        · rw [if_neg hl] at q; cases q
theorem s_par {q1 q2 : Bool} {i j : Nat} {x y : Str} (hc : X.calm = true) (hPi : i ∉ P) (hPj : j ∉ P) (hN : X.N.Nodup) (hi : X.N[i]? = some x) (hj : X.N[j]? = some y) (hij : i ≠ j)
    (hx : X.env.scope.names.lookup x = some .local) (hy : X.env.scope.names.lookup y = some .local) (ha : PE X a (tE T W fa)) (hb : PE X b (tE T W fb))
    (h1 : starEach [a, b] X.env = (false, eval a X.env) :: starEach [b] X.env) (h2 : starEach [b] X.env = (false, eval b X.env) :: starEach [] X.env)
    (hw : swappedStores [.Tuple [.Name x px, .Name y py] kt pt] (.Tuple [a, b] k2 pt2) X.env = pure (some [x, y]))
    (hs : swapsWithSole [.Tuple [.Name x px, .Name y py] kt pt] (.Tuple [a, b] k2 pt2) pos.line X.env = pure false) :
    PS X (.Assign [.Tuple [.Name x px, .Name y py] kt pt] (.Tuple [a, b] k2 pt2) pos) (tS T W P (sPar q1 q2 i j fa fb)) := by
  exact PS.mono (ps_par hc hN hi hj hij hx hy (pa_cons ha (pa_cons hb pa_nil h2) h1) hw hs) fun D σ H h => by
    obtain ⟨Hz, ρ, F, z, q⟩ := par_core hPi hPj h
    refine ⟨Hz, ρ, F, z, Aft.imp q fun v H1 ⟨Hz1, ρ1, F1, z1, q⟩ => ⟨Hz1, ρ1, F1, z1, Aft.imp q fun u H2 q => ?_⟩⟩
    exact ⟨v, u, rfl, q.1⟩
/-- .. names that a block reads -/
theorem s_parC {q1 q2 : Bool} {i j : Nat} {x y : Str} (hc : X.calm = true) (hPi : i ∉ P) (hPj : j ∉ P) (hN : X.N.Nodup) (hK : X.K = T.K) (hi : X.N[i]? = some x) (hj : X.N[j]? = some y)
    (hx : L2.Loc X.env.scope x ∧ (X.fn x = true ∨ X.env.scope.names.lookup x = some .local)) (hy : L2.Loc X.env.scope y ∧ (X.fn y = true ∨ X.env.scope.names.lookup y = some .local)) (ha : PE X a (tE T W fa)) (hb : PE X b (tE T W fb))
    (h1 : starEach [a, b] X.env = (false, eval a X.env) :: starEach [b] X.env) (h2 : starEach [b] X.env = (false, eval b X.env) :: starEach [] X.env)
    (ha1 : (assignEach [.Name x px, .Name y py] X.env).map (·.2) = assign (.Name x px) X.env :: (assignEach [.Name y py] X.env).map (·.2)) (ha2 : (assignEach [.Name y py] X.env).map (·.2) = assign (.Name y py) X.env :: (assignEach [] X.env).map (·.2))
    (hn : (assignEach [.Name x px, .Name y py] X.env).length = 2) (hst : (assignEach [.Name x px, .Name y py] X.env).findIdx? (·.1) = none)
    (hw : swappedStores [.Tuple [.Name x px, .Name y py] kt pt] (.Tuple [a, b] k2 pt2) X.env = pure none)
    (hs : swapsWithSole [.Tuple [.Name x px, .Name y py] kt pt] (.Tuple [a, b] k2 pt2) pos.line X.env = pure false)
    (h3 : (assignEach [.Tuple [.Name x px, .Name y py] kt pt] X.env).map (·.2) = [assign (.Tuple [.Name x px, .Name y py] kt pt) X.env]) :
    PS X (.Assign [.Tuple [.Name x px, .Name y py] kt pt] (.Tuple [a, b] k2 pt2) pos) (tS T W P (sPar q1 q2 i j fa fb)) := by
  refine PS.mono (ps_asg (pe_tup (pa_cons ha (pa_cons hb pa_nil h2) h1)) (pg_tup hc (pgs_cons (pg_name hN hi hx.1 hx.2) (pgs_cons (pg_name hN hj hy.1 hy.2) pgs_nil ha2) ha1) hn hst) hs hw h3) fun D σ H h => ?_
  obtain ⟨Hz, ρ, F, z, q⟩ := par_core hPi hPj h
  refine ⟨Hz, ρ, F, z, Aft.imp q fun v H1 ⟨Hz1, ρ1, F1, z1, q⟩ => ⟨Hz1, ρ1, F1, z1, Aft.imp q fun u H2 q => ?_⟩⟩
  refine ⟨by show 2 ≤ sizeLine; decide, fun p hp => ⟨p, [v, u], rfl, .inl (.inl upd_same), rfl, ?_⟩⟩
  exact ⟨v, [u], rfl, u, [], rfl, rfl, q.2 p hp⟩
end
end FK

set_option Elab.async false
set_option linter.all false
set_option maxRecDepth 100000
/-! FK 15: contexts, the table of defs. -/
namespace FK
open PySem PySem.Spec PyProof.Rows L2

/-! ### tests and lent names -/
noncomputable def sLendT (i : Nat) (c : STs) : STs := fun ρ => match ρ[i]? with
  | some (.ow d) => (c (ρ.set i (.fr d))).bnd fun b ρ' => if okBack i d .no ρ ρ' = true then .ok b (ρ'.set i (.ow d)) else .ok b ρ'
  | _ => c ρ
section
variable {X : Cx} {T : Tx} {W : WX} {e : Expr} {c : STs}
theorem t_lend {i : Nat} (he : PT X e (tT T W c)) : PT X e (tT T W (sLendT i c)) := by
  refine PT.mono he fun σ H Q ⟨Hz, ρ, F, z, h⟩ => ?_
  unfold sLendT at h
  cases q : ρ[i]? with
  | none => rw [q] at h; exact ⟨Hz, ρ, F, z, h⟩
  | some b =>
    rw [q] at h
    cases b with
    | ow d =>
      obtain ⟨a, hv, hf, o⟩ := z.owned q
      have hz : Hz a = none := z.out i a (by rw [hf]; simp)
      have st := Step.lend (H := H) hz hf
      refine ⟨_, _, _, z.lend q hv hf o, ?_⟩
      have h : Aft T W Hz H F σ PT_ ((c (ρ.set i (.fr d))).bnd fun b ρ' => if okBack i d .no ρ ρ' = true then .ok b (ρ'.set i (.ow d)) else .ok b ρ') Q := h
      generalize c (ρ.set i (.fr d)) = r at h
      cases r with
      | bad => exact h
      | exc x ρ' => exact fun cls dd Hz' H' F' z' s' q' => h cls dd Hz' H' F' z' (st.trans s') q'
      | ok b ρ' =>
        intro v Hz' H' F' z' s' pb
        have s2 := st.trans s'
        by_cases ok : okBack i d .no ρ ρ' = true
        · have h : Aft T W Hz H F σ PT_ (if okBack i d .no ρ ρ' = true then .ok b (ρ'.set i (.ow d)) else .ok b ρ') Q := h
          rw [if_pos ok] at h
          unfold okBack at ok
          simp only [Bool.and_eq_true, decide_eq_true_eq] at ok
          obtain ⟨⟨k1, k2⟩, k3⟩ := ok
          obtain ⟨z2, nt, na⟩ := z.unlend q hv hf o z' s2 s'.z k3 k2
          refine h v _ H' _ z2 ⟨fun c x e => by rw [drp_ne (ne_of_none e hz)]; exact s2.z c x e, s2.fr, fun c hc => s2.nz c fun w => hc (by
            by_cases hca : c = a
            · subst hca; exact drp_same
            · rw [drp_ne hca]; exact w), fun c hc => ?_, s2.dom⟩ pb
          rcases own_put hc with w | ⟨j, _, w⟩
          · have : c = a := by simpa using w
            subst this; exact .inr ⟨i, by rw [hf]; simp⟩
          · exact s2.no c ⟨j, w⟩
        · have h : Aft T W Hz H F σ PT_ (if okBack i d .no ρ ρ' = true then .ok b (ρ'.set i (.ow d)) else .ok b ρ') Q := h
          rw [if_neg ok] at h
          exact h v Hz' H' F' z' s2 pb
    | no => exact ⟨Hz, ρ, F, z, h⟩
    | fr d => exact ⟨Hz, ρ, F, z, h⟩
    | ob c fs => exact ⟨Hz, ρ, F, z, h⟩
end

/-! ### contexts -/
def visB (sc : Scope) (x : Str) : Bool := match sc.names.lookup x with
  | some .local => true
  | some .cell => true
  | some .free => true
  | _ => false
def locB (sc : Scope) (x : Str) : Bool := match sc.names.lookup x with
  | some .local => true
  | some .cell => true
  | _ => false
def plnB (x : Str) : Bool := !(x == ("__debug__" : Str)) && !(x == ("__classdict__" : Str))
def seesB (N : List Str) (sc : Scope) (l : List Nat) : Bool := l.all fun i => match N[i]? with
  | some x => visB sc x && plnB x
  | none => true
def putsB (N : List Str) (sc : Scope) (m : List Nat) : Bool := m.all fun i => match N[i]? with
  | some x => locB sc x
  | none => true
def ownsB (N : List Str) (sc : Scope) (m : List Nat) : Bool := m.all fun i => match N[i]? with
  | some x => decide (sc.names.lookup x = some .local)
  | none => true
structure Cxb (cb : Bool) (X : Cx) (T : Tx) (W : WX) (k : Nat) (l m : List Nat) : Prop where
  hK : X.K = T.K
  calm' : cb = true → X.calm = true
  nd : X.N.Nodup
  vis : ∀ i x, l.contains i = true → X.N[i]? = some x → Vis X.env.scope x ∧ (x == ("__debug__" : Str)) = false ∧ (x == ("__classdict__" : Str)) = false
  loc : ∀ i x, m.contains i = true → X.N[i]? = some x → L2.Loc X.env.scope x ∧ (X.fn x = true ∨ X.env.scope.names.lookup x = some .local)
  tk : Takes X W
  room' : cb = true → Room k X.A
  un : X.A.units + 200 < cLine
/-- a context where no exception is held -/
abbrev Cxt (X : Cx) (T : Tx) (W : WX) (k : Nat) (l m : List Nat) : Prop := Cxb true X T W k l m
theorem Cxb.calm {X : Cx} {T : Tx} {W : WX} {k : Nat} {l m : List Nat} (C : Cxb true X T W k l m) : X.calm = true := C.calm' rfl
theorem Cxb.room {X : Cx} {T : Tx} {W : WX} {k : Nat} {l m : List Nat} (C : Cxb true X T W k l m) : Room k X.A := C.room' rfl
theorem room_un {k : Nat} {A : Around} (r : Room k A) : A.units + 200 < cLine := by have := r.un; omega
theorem vis_of {sc : Scope} {x : Str} (h : visB sc x = true) : Vis sc x := by
  unfold visB at h
  unfold Vis
  split at h <;> simp_all
theorem loc_of {sc : Scope} {x : Str} (h : locB sc x = true)  : L2.Loc sc x := by
  unfold locB at h
  unfold L2.Loc
  split at h <;> simp_all
theorem sees_of {N : List Str} {sc : Scope} {l : List Nat} (h : seesB N sc l = true) (i : Nat) (x : Str) (hi : l.contains i = true) (hx : N[i]? = some x) : Vis sc x ∧ (x == ("__debug__" : Str)) = false ∧ (x == ("__classdict__" : Str)) = false := by
  have h1 := List.all_eq_true.mp h i (List.contains_iff_mem.mp hi)
  simp only [hx, Bool.and_eq_true] at h1
  have h2 := h1.2
  unfold plnB at h2
  rw [Bool.and_eq_true, Bool.not_eq_true', Bool.not_eq_true'] at h2
  exact ⟨vis_of h1.1, h2.1, h2.2⟩
theorem puts_of {N : List Str} {sc : Scope} {l : List Nat} (h : putsB N sc l = true) (i : Nat) (x : Str) (hi : l.contains i = true) (hx : N[i]? = some x)  : L2.Loc sc x := by
  have h1 := List.all_eq_true.mp h i (List.contains_iff_mem.mp hi)
  simp only [hx] at h1
  exact loc_of h1
theorem owns_of {N : List Str} {sc : Scope} {l : List Nat} (h : ownsB N sc l = true) (i : Nat) (x : Str) (hi : l.contains i = true) (hx : N[i]? = some x) : sc.names.lookup x = some .local := by
  have h1 := List.all_eq_true.mp h i (List.contains_iff_mem.mp hi)
  simp only [hx] at h1
  exact of_decide_eq_true h1
/-- a def's own context -/
theorem Cxb.ofDef {P : Program} {w : World} {T : Tx} {mg : Str → Option Value} {base : Heap} {k : Nat} {f : Addr} {qual : Str} {scope : Scope} {N ps : List Str} {cdv : Value} {A : Around} {outer : List PySem.Env} {s : Shared} {H : Hp} {E : XK} {l m : List Nat}
    (S : FnScope N ps scope) (h1 : seesB N scope l = true) (h2 : putsB N scope m = true) (hr : Room k (A.deeper (envOfC qual scope s.heap.objs.size f cdv))) :
    Cxt (cxOf (L2.CX P w) P w T.K mg base N qual scope f cdv A outer s H E) T (fun cls d _ H' => E cls d H') k l m :=
  ⟨rfl, fun _ => rfl, S.nd, sees_of h1, fun i x hi hx => ⟨puts_of h2 i x hi hx, .inl rfl⟩, takes_of rfl rfl rfl rfl, fun _ => hr, room_un hr⟩
/-- a block's context -/
theorem Cxb.blk {X : Cx} {T : Tx} {W : WX} {k : Nat} {l m l' m' : List Nat} (C : Cxt X T W k l m) {scope : Scope} (h1 : seesB X.N (relS scope X.env.scope) l' = true) (h2 : ownsB X.N (relS scope X.env.scope) m' = true) (s : Shared) (H : Hp) (Ca : Addr) (cl : List (Str × Addr)) (fp : List Addr) :
    Cxt (X.blk s H scope (compEnvC scope cl Ca X.env) fp) T W0 k l' m' :=
  ⟨C.hK, C.calm', C.nd, sees_of h1, fun i x hi hx => ⟨.inl (owns_of h2 i x hi hx), .inr (owns_of h2 i x hi hx)⟩, fun u s' ⟨_, _, _, _, _, _, _, _, _, _, _, _, _, _, _, _, w⟩ => w.elim, C.room', C.un⟩

section
variable {X : Cx} {T : Tx} {W : WX} {k : Nat} {l m : List Nat} {a b c e : Expr} {es : List Expr} {f fa fb fc : SE} {fs : SA} {fv : SAv} {P : List Nat} {pos p p1 p2 apos : Pos}
theorem Cxb.units {cb : Bool} (C : Cxb cb X T W k l m) : X.A.units + 66 < cLine := by have := C.un; omega
theorem Cxb.units2 {cb : Bool} (C : Cxb cb X T W k l m) : X.A.units + 70 < cLine := by have := C.un; omega
theorem v_ {cb : Bool} (C : Cxb cb X T W k l m) {i : Nat} {x : Str} (hN : X.N[i]? = some x) (hl : l.contains i = true) : PE X (.Name x pos) (tE T W (sVar i)) :=
  e_var hN (C.vis i x hl hN).1 (C.vis i x hl hN).2.1 (C.vis i x hl hN).2.2
theorem vio_ {cb : Bool} (C : Cxb cb X T W k l m) {i : Nat} {x : Str} (hN : X.N[i]? = some x) (hl : l.contains i = true) (hr : PA X es (tAv T W fv)) (hs : starEach (.Name x pos :: es) X.env = (false, eval (.Name x pos) X.env) :: starEach es X.env) : PA X (.Name x pos :: es) (tAv T W (vIo i fv)) :=
  v_io hN (C.vis i x hl hN).1 (C.vis i x hl hN).2.1 (C.vis i x hl hN).2.2 hr hs
theorem mv_ {cb : Bool} (C : Cxb cb X T W k l m) {i : Nat} {x : Str} (hN : X.N[i]? = some x) (hl : l.contains i = true) : PE X (.Name x pos) (tE T W (sMove i)) :=
  e_move hN (C.vis i x hl hN).1 (C.vis i x hl hN).2.1 (C.vis i x hl hN).2.2
theorem nm_ {cb : Bool} (C : Cxb cb X T W k l m) {i : Nat} {x : Str} (hN : X.N[i]? = some x) (hm : m.contains i = true) : PG X (.Name x pos) (tG T [i] (gNm i)) :=
  g_name C.nd hN (C.loc i x hm hN).1 (C.loc i x hm hN).2
theorem set_ {cb : Bool} (C : Cxb cb X T W k l m) (keep : Bool) {i : Nat} {x : Str} (hP : P.contains i = false) (hN : X.N[i]? = some x) (hm : m.contains i = true) (he : PE X e (tE T W f)) (hs : swapsWith e (some (.Name x p)) pos.line X.env = pure false) : PS X (.Assign [.Name x p] e pos) (tS T W P (sSet keep i f)) :=
  s_set (fun h => by rw [List.contains_iff_mem.mpr h] at hP; cases hP) C.nd hN (C.loc i x hm hN).1 he hs (C.loc i x hm hN).2
theorem k_eq {cb : Bool} (C : Cxb cb X T W k l m) : OpR X (compareOp .Eq) (rOf T.K gEq) := C.hK ▸ o_eq C.units
theorem k_ne {cb : Bool} (C : Cxb cb X T W k l m) : OpR X (compareOp .NotEq) (rOf T.K gNe) := C.hK ▸ o_ne C.units
theorem k_lt {cb : Bool} (C : Cxb cb X T W k l m) : OpR X (compareOp .Lt) (rOf T.K gLt) := C.hK ▸ o_lt C.units
theorem k_gt {cb : Bool} (C : Cxb cb X T W k l m) : OpR X (compareOp .Gt) (rOf T.K gGt) := C.hK ▸ o_gt C.units
theorem k_le {cb : Bool} (C : Cxb cb X T W k l m) : OpR X (compareOp .LtE) (rOf T.K gLe) := C.hK ▸ o_le C.units
theorem k_ge {cb : Bool} (C : Cxb cb X T W k l m) : OpR X (compareOp .GtE) (rOf T.K gGe) := C.hK ▸ o_ge C.units
theorem k_in {cb : Bool} (C : Cxb cb X T W k l m) : OpR X (compareOp .In) (rOf T.K gIn) := C.hK ▸ o_in C.units
theorem k_notIn {cb : Bool} (C : Cxb cb X T W k l m) : OpR X (compareOp .NotIn) (rOf T.K gNotIn) := C.hK ▸ o_notIn C.units
theorem k_is {cb : Bool} (C : Cxb cb X T W k l m) : OpR X (compareOp .Is) (rOf T.K gIs) := C.hK ▸ o_is
theorem k_isNot {cb : Bool} (C : Cxb cb X T W k l m) : OpR X (compareOp .IsNot) (rOf T.K gIsNot) := C.hK ▸ o_isNot
theorem k_add {cb : Bool} (C : Cxb cb X T W k l m) : OpR X (binaryOp .Add) (rOf T.K gAdd) := C.hK ▸ o_add
theorem k_sub {cb : Bool} (C : Cxb cb X T W k l m) : OpR X (binaryOp .Sub) (rOf T.K gSub) := C.hK ▸ o_sub
theorem k_mul {cb : Bool} (C : Cxb cb X T W k l m) : OpR X (binaryOp .Mult) (rOf T.K gMul) := C.hK ▸ o_mul
theorem k_fdiv {cb : Bool} (C : Cxb cb X T W k l m) : OpR X (binaryOp .FloorDiv) (rOf T.K gFdiv) := C.hK ▸ o_fdiv
theorem k_mod {cb : Bool} (C : Cxb cb X T W k l m) : OpR X (binaryOp .Mod) (rOf T.K gMod) := C.hK ▸ o_mod
theorem k_pow {cb : Bool} (C : Cxb cb X T W k l m) : OpR X (binaryOp .Pow) (rOf T.K gPow) := C.hK ▸ o_pow
theorem j_len {cb : Bool} (C : Cxb cb X T W k l m) : CallR X (.builtin "len") (rOfN T.K gLen) := C.hK ▸ c_len
theorem j_max (C : Cxt X T W k l m) : CallR X (.builtin "max") (rOfN T.K gMax) := C.hK ▸ c_max C.calm
theorem j_min (C : Cxt X T W k l m) : CallR X (.builtin "min") (rOfN T.K gMin) := C.hK ▸ c_min C.calm
theorem j_all (C : Cxt X T W k l m) : CallR X (.builtin "all") (rOfN T.K gAll) := C.hK ▸ c_all C.calm
theorem j_any (C : Cxt X T W k l m) : CallR X (.builtin "any") (rOfN T.K gAny) := C.hK ▸ c_any C.calm
theorem j_sorted {cb : Bool} (C : Cxb cb X T W k l m) : CallR X (.builtin "sorted") (rOfN T.K gSorted) := C.hK ▸ c_sorted C.units2
theorem j_list {cb : Bool} (C : Cxb cb X T W k l m) : CallR X (.type "list") (rOfN T.K gListOf) := C.hK ▸ c_list
theorem j_tuple {cb : Bool} (C : Cxb cb X T W k l m) : CallR X (.type "tuple") (rOfN T.K gTupleOf) := C.hK ▸ c_tuple
theorem j_str {cb : Bool} (C : Cxb cb X T W k l m) : CallR X (.type "str") (rOfN T.K gStr) := C.hK ▸ c_str
theorem j_int {cb : Bool} (C : Cxb cb X T W k l m) : CallR X (.type "int") (rOfN T.K gInt) := C.hK ▸ c_int
/-- a module's number -/
theorem gi_ {x : Str} {i : Int} (hm : ∃ t, X.mg x = some (.int i t)) (hg : Gl X x) (hd : (x == ("__debug__" : Str)) = false) : PE X (.Name x pos) (tE T W (sC (.int i))) := by
  obtain ⟨t, hm⟩ := hm
  exact e_const (pe_glob (v := .int i) hg hm ⟨t, rfl⟩ hd) rfl fun _ _ => .int i
/-- a def of the module -/
structure FnAt (K : Fg) (mg : Str → Option Value) (x : Str) (f : Addr) (fd : FuncData) (ps : List Str) : Prop where
  gl : mg x = some (.ref f)
  kp : PySem.W.keepIn K (.ref f) = true
  bd : Binds K fd ps []
theorem call_ (C : Cxt X T W k l m) {n : Nat} {f : Addr} {fd : FuncData} {ps : List Str} {x : Str} {ft : SE} (F : FnOk X.prog X.w T.K X.mg X.base (L2.CX X.prog X.w) k f fd ps (spF T n ft)) (A : FnAt T.K X.mg x f fd ps) (hft : ∀ bs, ft bs ≠ .bad → bs.length = n)
    (ha : PA X (e :: es) (tAv T W fv)) (hg : Gl X x) (hdb : (x == ("__debug__" : Str)) = false) (he : starEach (e :: es) X.env = (false, eval e X.env) :: starEach es X.env) (hpl : (backTo pos (starEach es X.env)).any (·.1) = false) :
    PE X (.Call (.Name x p) (e :: es) [] pos) (tE T W (sCall ft fv)) :=
  e_call C.hK (by rw [C.hK]; exact F) C.room hg A.gl (by rw [C.hK]; exact A.kp) (by rw [C.hK]; exact A.bd) C.tk ha hft hdb he hpl
end
/-- name = [.. for ..] -/
theorem s_setLc {X : Cx} {T : Tx} {W : WX} {P : List Nat} {keep : Bool} {i : Nat} {y : Str} {py : Pos} {elt tg iter : Expr} {ifs : List Expr} {scope : Scope} {own : List (Str × Nat)} {pos spos : Pos} {it : SI} {g : SG} {ct : STs} {fe : SE} {L : List Nat} (hc : X.calm = true) (hN : X.N.Nodup) (hP : i ∉ P) (hy : X.N[i]? = some y) (hyl : X.env.scope.names.lookup y = some .local)
    (hsw : swapsWith (.ListComp elt [⟨tg, iter, ifs, 0⟩] scope pos) (some (.Name y py)) spos.line X.env = pure true) (hi : PI X tg iter (tI T W it)) (ok : BlkOk X.N X.env.scope scope own) (hL : ∀ i ∈ L, i ∈ own.map (·.2))
    (hg : ∀ (s : Shared) (H : Hp) (C : Addr) (cl : List (Str × Addr)) (fp : List Addr), PG (X.blk s H scope (compEnvC scope cl C X.env) fp) tg (tG T L g))
    (ht : ∀ (s : Shared) (H : Hp) (C : Addr) (cl : List (Str × Addr)) (fp : List Addr), PTs (X.blk s H scope (compEnvC scope cl C X.env) fp) ifs (tT T W0 ct))
    (he : ∀ (s : Shared) (H : Hp) (C : Addr) (cl : List (Str × Addr)) (fp : List Addr), PE (X.blk s H scope (compEnvC scope cl C X.env) fp) elt (tE T W0 fe)) (hs : ∀ x, foldedSetIterable iter X.env x = pure x) :
    PS X (.Assign [.Name y py] (.ListComp elt [⟨tg, iter, ifs, 0⟩] scope pos) spos) (tS T W P (sSet keep i (sLc (own.map (·.2)) it g ct fe))) := by
  refine PS.mono (ps_setLc hc hN hy hyl hsw hi ok hg ht he hs) fun D σ H ⟨Hz, ρ, F, z, h⟩ => ?_
  refine e_lc (pos := pos) hc hN hi ok hL hg ht he hs rfl ⟨Hz, ρ, F, z, Aft.imp (AftS.bS (PP := PB T.K F) h) fun v H1 ⟨Hz1, F1, b, ρ1, z1, s1, r1, q1⟩ => ?_⟩
  exact set_aft hP z1 s1 r1 q1
theorem e_lcE {X : Cx} {T : Tx} {W : WX} {elt tg iter : Expr} {ifs : List Expr} {scope : Scope} {own : List (Str × Nat)} {pos : Pos} {it : SI} {g : SG} {ct : STs} {fe : SE} {L : List Nat} (hc : X.calm = true) (hN : X.N.Nodup) (hi : PI X tg iter (tI T W it)) (ok : BlkOk X.N X.env.scope scope own)
    (hL : ∀ i ∈ L, i ∈ own.map (·.2))
    (hg : ∀ (s : Shared) (H : Hp) (C : Addr) (cl : List (Str × Addr)) (fp : List Addr), PG (X.blk s H scope (compEnvC scope cl C X.env) fp) tg (tG T L g))
    (ht : ∀ (s : Shared) (H : Hp) (C : Addr) (cl : List (Str × Addr)) (fp : List Addr), PTs (X.blk s H scope (compEnvC scope cl C X.env) fp) ifs (tT T W0 ct))
    (he : ∀ (s : Shared) (H : Hp) (C : Addr) (cl : List (Str × Addr)) (fp : List Addr), PE (X.blk s H scope (compEnvC scope cl C X.env) fp) elt (tE T W0 fe)) (hs : ∀ x, foldedSetIterable iter X.env x = pure x) :
    PE X (.ListComp elt [⟨tg, iter, ifs, 0⟩] scope pos) (tE T W (sLc (own.map (·.2)) it g ct fe)) :=
  PE.mono (pe_lc hc hN hi ok hg ht he hs) fun σ H Q h => e_lc (pos := pos) hc hN hi ok hL hg ht he hs rfl h

/-! ### the table -/
structure PD where
  body : (Nat → SE) → SS
  np : Nat
  ns : Nat
  prot : List Nat
def PD.none : PD := ⟨fun _ _ => .bad, 0, 0, []⟩
def sem (pds : List PD) : Nat → Nat → SE
  | 0, _ => fun _ => .bad
  | k + 1, i => runDef ((pds.getD i PD.none).body (sem pds k)) (pds.getD i PD.none).np (pds.getD i PD.none).ns (pds.getD i PD.none).prot
theorem sem_len {pds : List PD} : ∀ {k i : Nat} (bs : List B), sem pds k i bs ≠ .bad → bs.length = (pds.getD i PD.none).np
  | 0, i, bs, h => absurd rfl h
  | k + 1, i, bs, h => by
    unfold sem runDef at h
    by_cases e : bs.length = (pds.getD i PD.none).np
    · exact e
    · rw [if_neg e] at h; exact absurd rfl h
abbrev Okd (P : Program) (w : World) (T : Tx) (mg : Str → Option Value) (base : Heap) (ats : List (Str × Option Str)) (fds : Nat → FuncData) (pss : List (List Str)) (pds : List PD) (k i : Nat) : Prop :=
  FnOk P w T.K mg base (L2.CX P w) (k + 2) (He.fAd T.K (ats.getD i ("", none))) (fds i) (pss.getD i []) (spF T (pds.getD i PD.none).np (sem pds k i))
theorem tab {P : Program} {w : World} {T : Tx} {mg : Str → Option Value} {base : Heap} {ats : List (Str × Option Str)} {fds : Nat → FuncData} {pss : List (List Str)} {pds : List PD} {n : Nat}
    (h : ∀ k, (∀ j, j < n → Okd P w T mg base ats fds pss pds k j) → ∀ i, i < n → Okd P w T mg base ats fds pss pds (k + 1) i) : ∀ k i, i < n → Okd P w T mg base ats fds pss pds k i
  | 0, i, hi => by
    have no : ∀ vs H Q E, ¬ spF T (pds.getD i PD.none).np (sem pds 0 i) vs H Q E := fun vs H Q E q => by
      obtain ⟨_, Hz, ρ, F, _, q⟩ := q
      exact q
    exact ⟨fun vs H Q E q => (no _ _ _ _ q).elim, fun A outer s H args us vs Q E _ _ _ _ q => (no _ _ _ _ q).elim⟩
  | k + 1, i, hi => h k (fun j hj => tab h k j hj) i hi
end FK

set_option Elab.async false
set_option linter.all false
set_option maxRecDepth 100000
/-! FK 16: what the printed proofs use. -/
namespace FK
open PySem PySem.Spec PyProof.Rows L2
def gNeg (d : D) : Option B := match d with
  | .int i => some (.fr (.int (-i)))
  | _ => none
section
variable {X : Cx} {T : Tx} {W : WX} {k : Nat} {l m : List Nat} {a b c e : Expr} {es : List Expr} {f fa fb fc : SE} {fs : SA} {fv : SAv} {ct et : STs} {P : List Nat} {pos p p1 p2 apos : Pos}
theorem k_neg {cb : Bool} (C : Cxb cb X T W k l m) : UnR X (unaryOp .USub) (rOf1 T.K gNeg) := by
  intro pins s σ H x v Q I rx ⟨Hz, d, b, hs, r1, hg, q⟩
  cases d with
  | int i =>
    cases hg
    exact un_neg pins s σ H x v Q I rx ⟨i, int_of r1, q _ _ (.here hs (.int _))⟩
  | _ => cases hg
/-- the conditions of a comprehension -/
theorem c_nil : PTs X [] (tT T W sYes) := ⟨fun pins s σ H Q I ⟨Hz, ρ, F, z, h⟩ => pts_nil.run pins s σ H Q I (h true Hz H F z .refl rfl)⟩
theorem c_one (h : PT X c (tT T W ct)) : PTs X [c] (tT T W ct) := pts_one h
theorem dne {N : List Nat} {P : List Nat} (h : (P.all fun i => !(N.contains i)) = true) : ∀ i ∈ P, i ∉ N := fun i hi hn => by
  have := List.all_eq_true.mp h i hi
  rw [List.contains_iff_mem.mpr hn] at this
  cases this
theorem lc_ (C : Cxt X T W k l m) (l' m' : List Nat) (own : List (Str × Nat)) {elt tg iter : Expr} {ifs : List Expr} {scope : Scope} {it : SI} {g : SG} {fe : SE} {L : List Nat} (hb : blkC X.N X.env.scope scope own = true) (h1 : seesB X.N (relS scope X.env.scope) l' = true) (h2 : ownsB X.N (relS scope X.env.scope) m' = true)
    (hL : (L.all fun i => (own.map (·.2)).contains i) = true) (hi : PI X tg iter (tI T W it))
    (hg : ∀ (s : Shared) (H : Hp) (Ca : Addr) (cl : List (Str × Addr)) (fp : List Addr), Cxt (X.blk s H scope (compEnvC scope cl Ca X.env) fp) T W0 k l' m' → PG (X.blk s H scope (compEnvC scope cl Ca X.env) fp) tg (tG T L g))
    (ht : ∀ (s : Shared) (H : Hp) (Ca : Addr) (cl : List (Str × Addr)) (fp : List Addr), Cxt (X.blk s H scope (compEnvC scope cl Ca X.env) fp) T W0 k l' m' → PTs (X.blk s H scope (compEnvC scope cl Ca X.env) fp) ifs (tT T W0 ct))
    (he : ∀ (s : Shared) (H : Hp) (Ca : Addr) (cl : List (Str × Addr)) (fp : List Addr), Cxt (X.blk s H scope (compEnvC scope cl Ca X.env) fp) T W0 k l' m' → PE (X.blk s H scope (compEnvC scope cl Ca X.env) fp) elt (tE T W0 fe)) (hs : ∀ x, foldedSetIterable iter X.env x = pure x) :
    PE X (.ListComp elt [⟨tg, iter, ifs, 0⟩] scope pos) (tE T W (sLc (own.map (·.2)) it g ct fe)) :=
  e_lcE C.calm C.nd hi (blkOk_by hb) (fun i hi => List.contains_iff_mem.mp (List.all_eq_true.mp hL i hi)) (fun s H Ca cl fp => hg s H Ca cl fp (C.blk h1 h2 s H Ca cl fp)) (fun s H Ca cl fp => ht s H Ca cl fp (C.blk h1 h2 s H Ca cl fp)) (fun s H Ca cl fp => he s H Ca cl fp (C.blk h1 h2 s H Ca cl fp)) hs
theorem setLc_ (C : Cxt X T W k l m) (l' m' : List Nat) (own : List (Str × Nat)) (keep : Bool) {i : Nat} {y : Str} {py spos : Pos} {elt tg iter : Expr} {ifs : List Expr} {scope : Scope} {it : SI} {g : SG} {fe : SE} {L : List Nat} (hP : P.contains i = false) (hy : X.N[i]? = some y) (hyl : X.env.scope.names.lookup y = some .local)
    (hsw : swapsWith (.ListComp elt [⟨tg, iter, ifs, 0⟩] scope pos) (some (.Name y py)) spos.line X.env = pure true)
    (hb : blkC X.N X.env.scope scope own = true) (h1 : seesB X.N (relS scope X.env.scope) l' = true) (h2 : ownsB X.N (relS scope X.env.scope) m' = true)
    (hL : (L.all fun i => (own.map (·.2)).contains i) = true) (hi : PI X tg iter (tI T W it))
    (hg : ∀ (s : Shared) (H : Hp) (Ca : Addr) (cl : List (Str × Addr)) (fp : List Addr), Cxt (X.blk s H scope (compEnvC scope cl Ca X.env) fp) T W0 k l' m' → PG (X.blk s H scope (compEnvC scope cl Ca X.env) fp) tg (tG T L g))
    (ht : ∀ (s : Shared) (H : Hp) (Ca : Addr) (cl : List (Str × Addr)) (fp : List Addr), Cxt (X.blk s H scope (compEnvC scope cl Ca X.env) fp) T W0 k l' m' → PTs (X.blk s H scope (compEnvC scope cl Ca X.env) fp) ifs (tT T W0 ct))
    (he : ∀ (s : Shared) (H : Hp) (Ca : Addr) (cl : List (Str × Addr)) (fp : List Addr), Cxt (X.blk s H scope (compEnvC scope cl Ca X.env) fp) T W0 k l' m' → PE (X.blk s H scope (compEnvC scope cl Ca X.env) fp) elt (tE T W0 fe)) (hs : ∀ x, foldedSetIterable iter X.env x = pure x) :
    PS X (.Assign [.Name y py] (.ListComp elt [⟨tg, iter, ifs, 0⟩] scope pos) spos) (tS T W P (sSet keep i (sLc (own.map (·.2)) it g ct fe))) :=
  s_setLc C.calm C.nd (fun h => by rw [List.contains_iff_mem.mpr h] at hP; cases hP) hy hyl hsw hi (blkOk_by hb) (fun i hi => List.contains_iff_mem.mp (List.all_eq_true.mp hL i hi)) (fun s H Ca cl fp => hg s H Ca cl fp (C.blk h1 h2 s H Ca cl fp)) (fun s H Ca cl fp => ht s H Ca cl fp (C.blk h1 h2 s H Ca cl fp)) (fun s H Ca cl fp => he s H Ca cl fp (C.blk h1 h2 s H Ca cl fp)) hs
theorem par_ (C : Cxt X T W k l m) {q1 q2 : Bool} {i j : Nat} {x y : Str} {px py pt pt2 : Pos} {kt k2 : Nat} (hPi : P.contains i = false) (hPj : P.contains j = false) (hi : X.N[i]? = some x) (hj : X.N[j]? = some y) (hij : i ≠ j)
    (hx : X.env.scope.names.lookup x = some .local) (hy : X.env.scope.names.lookup y = some .local) (ha : PE X a (tE T W fa)) (hb : PE X b (tE T W fb))
    (h1 : starEach [a, b] X.env = (false, eval a X.env) :: starEach [b] X.env) (h2 : starEach [b] X.env = (false, eval b X.env) :: starEach [] X.env)
    (hw : swappedStores [.Tuple [.Name x px, .Name y py] kt pt] (.Tuple [a, b] k2 pt2) X.env = pure (some [x, y]))
    (hs : swapsWithSole [.Tuple [.Name x px, .Name y py] kt pt] (.Tuple [a, b] k2 pt2) pos.line X.env = pure false) :
    PS X (.Assign [.Tuple [.Name x px, .Name y py] kt pt] (.Tuple [a, b] k2 pt2) pos) (tS T W P (sPar q1 q2 i j fa fb)) :=
  s_par C.calm (fun h => by rw [List.contains_iff_mem.mpr h] at hPi; cases hPi) (fun h => by rw [List.contains_iff_mem.mpr h] at hPj; cases hPj) C.nd hi hj hij hx hy ha hb h1 h2 hw hs
theorem parC_ (C : Cxt X T W k l m) {q1 q2 : Bool} {i j : Nat} {x y : Str} {px py pt pt2 : Pos} {kt k2 : Nat} (hPi : P.contains i = false) (hPj : P.contains j = false) (hi : X.N[i]? = some x) (hj : X.N[j]? = some y)
    (hx : m.contains i = true) (hy : m.contains j = true) (ha : PE X a (tE T W fa)) (hb : PE X b (tE T W fb))
    (h1 : starEach [a, b] X.env = (false, eval a X.env) :: starEach [b] X.env) (h2 : starEach [b] X.env = (false, eval b X.env) :: starEach [] X.env)
    (hw : swappedStores [.Tuple [.Name x px, .Name y py] kt pt] (.Tuple [a, b] k2 pt2) X.env = pure none)
    (hs : swapsWithSole [.Tuple [.Name x px, .Name y py] kt pt] (.Tuple [a, b] k2 pt2) pos.line X.env = pure false) :
    PS X (.Assign [.Tuple [.Name x px, .Name y py] kt pt] (.Tuple [a, b] k2 pt2) pos) (tS T W P (sPar q1 q2 i j fa fb)) :=
  s_parC C.calm (fun h => by rw [List.contains_iff_mem.mpr h] at hPi; cases hPi) (fun h => by rw [List.contains_iff_mem.mpr h] at hPj; cases hPj) C.nd C.hK hi hj (C.loc i x hx hi) (C.loc j y hy hj) ha hb h1 h2 rfl rfl rfl rfl hw hs rfl
theorem asg_ {L : List Nat} {g : SG} {tg : Expr} (hP : (P.all fun i => !(L.contains i)) = true) (he : PE X e (tE T W f)) (hg : PG X tg (tG T L g)) (hs : swapsWithSole [tg] e pos.line X.env = pure false) (hw : swappedStores [tg] e X.env = pure none) (h1 : (assignEach [tg] X.env).map (·.2) = [assign tg X.env]) :
    PS X (.Assign [tg] e pos) (tS T W P (sAsg f g)) := s_asg (dne hP) he hg hs hw h1
theorem for_ (C : Cxt X T W k l m) (hp : PassesOwn (model X.prog X.w) X.A X.env X.xe) {L : List Nat} {g : SG} {it : SI} {b : SS} {tg iter : Expr} {body : List Stmt} (hP : (P.all fun i => !(L.contains i)) = true) (hi : PI X tg iter (tI T W it)) (hg : PG X tg (tG T L g)) (hb : PSs X body (tS T W P b)) (hs : ∀ x, foldedSetIterable iter X.env x = pure x) :
    PS X (.For tg iter body [] pos) (tS T W P (sFor it g b)) := s_for (dne hP) hp C.calm hi hg hb hs
theorem app_ {cb : Bool} (C : Cxb cb X T W k l m) {i : Nat} {x : Str} {cpos : Pos} (hN : X.N[i]? = some x) (hl : l.contains i = true) (he : PE X e (tE T W f))
    (hfew : ((backTo cpos (starEach [e] X.env)).all (fun x => !x.1) && (backToKw cpos (keywordEach [] X.env)).all (fun x => x.1.isSome) && decide ([e].length + ([] : List Keyword).length + (if ([] : List Keyword).isEmpty then 0 else 1) < 30)) = true)
    (hline : (apos.endLine == cpos.line) = true) (hs : starEach [e] X.env = (false, eval e X.env) :: starEach [] X.env) (hbase : attributeBase (.Name x p1) "append" X.env (eval (.Name x p1) X.env) = eval (.Name x p1) X.env)
    (hsw : swapsWith (.Call (.Attribute (.Name x p1) "append" apos) [e] [] cpos) none pos.line X.env = pure false) :
    PS X (.Expr (.Call (.Attribute (.Name x p1) "append" apos) [e] [] cpos) pos) (tS T W P (sAppend i f)) :=
  s_append C.hK hN (C.vis i x hl hN).1 (C.vis i x hl hN).2.1 (C.vis i x hl hN).2.2 he hfew hline hs hbase hsw
theorem setL_ {cb : Bool} (C : Cxb cb X T W k l m) {i : Nat} {x : Str} {ix : Expr} {fi : SE} (hN : X.N[i]? = some x) (hl : l.contains i = true) (he : PE X e (tE T W f)) (hi : PE X ix (tE T W fi))
    (hs : swapsWithSole [.Subscript (.Name x p1) ix p2] e pos.line X.env = pure false) (hw : swappedStores [.Subscript (.Name x p1) ix p2] e X.env = pure none)
    (ha : ∀ v, assign (.Subscript (.Name x p1) ix p2) X.env v = (do
      let ov ← holding [v] (eval (.Name x p1) X.env)
      let iv ← holding [v, ov] (eval ix X.env)
      standAt p2
      holding [v, ov, iv] (setItem ov iv v)
      release [v, ov, iv] [])) (h1 : (assignEach [.Subscript (.Name x p1) ix p2] X.env).map (·.2) = [assign (.Subscript (.Name x p1) ix p2) X.env]) :
    PS X (.Assign [.Subscript (.Name x p1) ix p2] e pos) (tS T W P (sSetL i fi f)) :=
  s_setL hN (C.vis i x hl hN).1 (C.vis i x hl hN).2.1 (C.vis i x hl hN).2.2 he hi hs hw ha h1
end
end FK

set_option Elab.async false
set_option linter.all false
set_option maxRecDepth 100000
set_option maxHeartbeats 2000000
/-! FK 16b: list(zip(a, b)). -/
namespace PySem.LZ
open PySem PySem.SeqAt PyProof.Rows PySem.W
theorem zl1 : typeLookup (.type "zip") "__len__" = pure none := by rw [typeLookup_type, builtinLookup_eq_fast]; kernel_rfl
theorem zl2 : typeLookup (.type "zip") "__length_hint__" = pure none := by rw [typeLookup_type, builtinLookup_eq_fast]; kernel_rfl
structure Ats (z TI TO i1 i2 l1 l2 S : Addr) : Prop where
  D : ZipApart z TI TO i1 i2 l1 l2
  Sz : S ≠ z
  STI : S ≠ TI
  STO : S ≠ TO
  S1 : S ≠ i1
  S2 : S ≠ i2
  Sl1 : S ≠ l1
  Sl2 : S ≠ l2
def ZSt (z TI TO i1 i2 l1 l2 S : Addr) (xs ys : Array Value) (i : Nat) (h : Heap) : Prop := IsPair h TI (.ref i1) (.ref i2) ∧ h.IsListIter i1 l1 i ∧ h.IsListIter i2 l2 i ∧ h.IsList l1 xs ∧ h.IsList l2 ys ∧
  ((IsZip h z TI TO .none ∧ ∃ a b, IsPair h TO a b) ∨ ∃ T f oT, IsZipHeld h z TI TO T f ∧ h.get? T = some oT ∧ T ≠ z ∧ T ≠ i1 ∧ T ≠ i2 ∧ T ≠ S)
theorem ZSt.up {z TI TO i1 i2 l1 l2 S : Addr} {xs ys : Array Value} {i : Nat} {h h' : Heap} (A : Ats z TI TO i1 i2 l1 l2 S) (q : ZSt z TI TO i1 i2 l1 l2 S xs ys i h) (e : ∀ b o, b ≠ S → h.get? b = some o → h'.get? b = some o) : ZSt z TI TO i1 i2 l1 l2 S xs ys i h' := by
  obtain ⟨q1, q2, q3, q4, q5, q6⟩ := q
  refine ⟨e _ _ A.STI.symm q1, q2.at fun o k => e _ o A.S1.symm k, q3.at fun o k => e _ o A.S2.symm k, q4.at fun o k => e _ o A.Sl1.symm k, q5.at fun o k => e _ o A.Sl2.symm k, ?_⟩
  rcases q6 with ⟨u1, a, b, u2⟩ | ⟨T, f, oT, u1, u2, u3, u4, u5, u6⟩
  · exact .inl ⟨e _ _ A.Sz.symm u1, a, b, e _ _ A.STO.symm u2⟩
  · exact .inr ⟨T, f, oT, e _ _ A.Sz.symm u1, e _ _ u6 u2, u3, u4, u5, u6⟩
structure Got (xs ys : Array Value) (lo : Addr) (h : Heap) (as : List Addr) : Prop where
  rise : as.Pairwise (· < ·)
  above : ∀ a ∈ as, lo ≤ a
  there : ∀ a ∈ as, a < h.objs.size
  pairs : ∀ (j : Nat) (a : Addr), as[j]? = some a → ∃ x y, xs[j]? = some x ∧ ys[j]? = some y ∧ h.get? a = some { cls := .type "tuple", data := .seq #[x, y] }
section
variable {prog : Program} {w : World} {A : Around} {s : Shared} {R : Result → Shared → Prop} {xs ys : Array Value} {z TI TO i1 i2 l1 l2 S : Addr}
theorem z_item {i : Nat} {x y : Value} {E : Value → Shared → Prop} {Q : Option Value → Shared → Prop} (T : Ats z TI TO i1 i2 l1 l2 S) (q : ZSt z TI TO i1 i2 l1 l2 S xs ys i s.heap) (hS : S < s.heap.objs.size) (hx : xs[i]? = some x) (hy : ys[i]? = some y)
    (hQ : ∀ h', ZSt z TI TO i1 i2 l1 l2 S xs ys (i + 1) h' → h'.get? s.heap.objs.size = some { cls := .type "tuple", data := .seq #[x, y] } → h'.objs.size = s.heap.objs.size + 1 →
      (∀ c o, c ≠ z → c ≠ TO → c ≠ i1 → c ≠ i2 → s.heap.get? c = some o → h'.get? c = some o) → Q (some (.ref s.heap.objs.size)) { s with heap := h' }) : wpAny (model prog w) A (pyNext (.ref z)) Q E s := by
  obtain ⟨q1, q2, q3, q4, q5, q6⟩ := q
  have D := T.D
  have lt : ∀ {c o}, s.heap.get? c = some o → s.heap.objs.size ≠ c := fun e => Nat.ne_of_gt (Heap.lt_size e)
  have n1 : s.heap.objs.size ≠ i1 := let ⟨_, e, _⟩ := q2; lt e
  have n2 : s.heap.objs.size ≠ i2 := let ⟨_, e, _⟩ := q3; lt e
  rcases q6 with ⟨u1, a, b, u2⟩ | ⟨T', f, oT, u1, u2, u3, u4, u5, u6⟩
  · refine wpAny_pyNext_zip_item D u1 q1 u2 q2 q3 q4 q5 hx hy fun h' a1 a2 a3 a4 a5 a6 hk => ?_
    exact hQ h' ⟨hk _ _ D.TIz D.TITO D.TIi1 D.TIi2 q1, a3, a4, q4.at fun o e => hk _ o D.l1z D.l1TO D.l1i1 D.l1i2 e, q5.at fun o e => hk _ o D.l2z D.l2TO D.l2i1 D.l2i2 e,
      .inr ⟨s.heap.objs.size, false, _, a1, a5, lt u1, n1, n2, Nat.ne_of_gt hS⟩⟩ a5 a6 hk
  · refine wpAny_pyNext_zip_item_held D u1 u2 q1 q2 q3 q4 q5 hx hy fun h' a1 a3 a4 a5 a6 hk => ?_
    exact hQ h' ⟨hk _ _ D.TIz D.TIi1 D.TIi2 q1, a3, a4, q4.at fun o e => hk _ o D.l1z D.l1i1 D.l1i2 e, q5.at fun o e => hk _ o D.l2z D.l2i1 D.l2i2 e,
      .inr ⟨T', true, oT, a1, hk _ _ u3 u4 u5 u2, u3, u4, u5, u6⟩⟩ a5 a6 fun c o c1 _ c2 c3 e => hk c o c1 c2 c3 e
theorem z_done {i : Nat} {E : Value → Shared → Prop} {Q : Option Value → Shared → Prop} (hh : A.handled = none) (T : Ats z TI TO i1 i2 l1 l2 S) (q : ZSt z TI TO i1 i2 l1 l2 S xs ys i s.heap) (he : xs[i]? = none ∨ ys[i]? = none)
    (hQ : ∀ h', (∀ c o, c ≠ z → c ≠ TO → c ≠ i1 → c ≠ i2 → s.heap.get? c = some o → h'.get? c = some o) → Q none { s with heap := h' }) : wpAny (model prog w) A (pyNext (.ref z)) Q E s := by
  obtain ⟨q1, q2, q3, q4, q5, q6⟩ := q
  rcases q6 with ⟨u1, a, b, u2⟩ | ⟨T', f, oT, u1, u2, u3, u4, u5, u6⟩
  · exact wpAny_pyNext_zip_end hh T.D u1 q1 u2 q2 q3 q4 q5 he hQ
  · exact wpAny_pyNext_zip_end_held hh T.D u1 u2 q1 q2 q3 q4 q5 he fun h' hk => hQ h' fun c o c1 _ c2 c3 e => hk c o c1 c2 c3 e
theorem z_loop (hh : A.handled = none) (T : Ats z TI TO i1 i2 l1 l2 S) (hn : min xs.size ys.size ≤ sizeLine) (res : Value) {lo : Addr} (lows : z < lo ∧ TO < lo ∧ i1 < lo ∧ i2 < lo ∧ S < lo) {N : Nat} {h₁ : Heap} (hN : N ≤ z ∧ N ≤ TO ∧ N ≤ i1 ∧ N ≤ i2 ∧ N ≤ S) (hs1 : h₁.objs.size ≤ N)
    (hR : ∀ h' tk acc c as, (∀ b o, h₁.get? b = some o → h'.get? b = some o) → h'.get? S = some { cls := .type "list", dict := none, data := .seq acc c, slots := #[] } → as.length = min xs.size ys.size → Got xs ys lo h' as →
      acc.toList = as.map Value.ref → R (.ok (.ret res)) { s with heap := h', toks := tk }) :
    ∀ (k i : Nat) (h : Heap) (tk c : Nat) (acc : Array Value) (as : List Addr), min xs.size ys.size - i = k → i ≤ min xs.size ys.size → ZSt z TI TO i1 i2 l1 l2 S xs ys i h → (∀ b o, h₁.get? b = some o → h.get? b = some o) →
      h.get? S = some { cls := .type "list", dict := none, data := .seq acc c, slots := #[] } → acc.toList = as.map Value.ref → as.length = i → Got xs ys lo h as → lo ≤ h.objs.size →
      codeAny (model prog w) A (.builtin "list.extend.loop" ⟨[.ref S, .ref z, res], []⟩) R { s with heap := h, toks := tk } := by
  have old : ∀ {b o}, h₁.get? b = some o → b ≠ z ∧ b ≠ TO ∧ b ≠ i1 ∧ b ≠ i2 ∧ b ≠ S := fun {b o} e => by
    have hb : b < h₁.objs.size := Heap.lt_size e
    have hb2 : b < N := Nat.lt_of_lt_of_le hb hs1
    obtain ⟨n1, n2, n3, n4, n5⟩ := hN
    exact ⟨Nat.ne_of_lt (Nat.lt_of_lt_of_le hb2 n1), Nat.ne_of_lt (Nat.lt_of_lt_of_le hb2 n2), Nat.ne_of_lt (Nat.lt_of_lt_of_le hb2 n3), Nat.ne_of_lt (Nat.lt_of_lt_of_le hb2 n4), Nat.ne_of_lt (Nat.lt_of_lt_of_le hb2 n5)⟩
  have far : ∀ {a : Addr}, lo ≤ a → a ≠ z ∧ a ≠ TO ∧ a ≠ i1 ∧ a ≠ i2 ∧ a ≠ S := fun {a} e => by
    obtain ⟨n1, n2, n3, n4, n5⟩ := lows
    exact ⟨Nat.ne_of_gt (Nat.lt_of_lt_of_le n1 e), Nat.ne_of_gt (Nat.lt_of_lt_of_le n2 e), Nat.ne_of_gt (Nat.lt_of_lt_of_le n3 e), Nat.ne_of_gt (Nat.lt_of_lt_of_le n4 e), Nat.ne_of_gt (Nat.lt_of_lt_of_le n5 e)⟩
  intro k
  induction k with
  | zero =>
    intro i h tk c acc as hk hi hst hkeep hS hacc hal hG hlo
    have hin : i = min xs.size ys.size := by omega
    have hend : xs[i]? = none ∨ ys[i]? = none := by
      rcases Nat.le_total xs.size ys.size with q | q
      · exact .inl (Array.getElem?_eq_none (by omega))
      · exact .inr (Array.getElem?_eq_none (by omega))
    refine codeAny_builtin PySem.F.entry_extend_loop ?_
    rw [Around.under_plainId PySem.F.plain_extend_loop _]
    show wpAny _ A.in1 (pyNext (.ref z) >>= _) _ _ _
    refine wpAny_bind (z_done (s := { s with heap := h, toks := tk }) (A := A.in1) hh T hst hend fun h' he => ?_)
    refine wpAny_pure (hR h' tk acc c as (fun b o e => ?_) (he S _ T.Sz T.STO T.S1 T.S2 hS) (by omega) ⟨hG.rise, hG.above, fun a ha => ?_, fun j a hj => ?_⟩ hacc)
    · obtain ⟨m1, m2, m3, m4, _⟩ := old e
      exact he b o m1 m2 m3 m4 (hkeep b o e)
    · obtain ⟨j, hj⟩ := List.mem_iff_getElem?.mp ha
      obtain ⟨x, y, _, _, e3⟩ := hG.pairs j a hj
      obtain ⟨m1, m2, m3, m4, _⟩ := far (hG.above a ha)
      exact Heap.lt_size (he a _ m1 m2 m3 m4 e3)
    · obtain ⟨x, y, e1, e2, e3⟩ := hG.pairs j a hj
      obtain ⟨m1, m2, m3, m4, _⟩ := far (hG.above a (List.mem_of_getElem? hj))
      exact ⟨x, y, e1, e2, he a _ m1 m2 m3 m4 e3⟩
  | succ k ih =>
    intro i h tk c acc as hk hi hst hkeep hS hacc hal hG hlo
    have hlt : i < min xs.size ys.size := by omega
    have ex := Array.getElem?_eq_getElem (show i < xs.size by omega)
    have ey := Array.getElem?_eq_getElem (show i < ys.size by omega)
    have hsz : acc.size = i := by rw [← Array.length_toList, hacc, List.length_map, hal]
    have hSl : S < h.objs.size := Heap.lt_size hS
    refine codeAny_builtin PySem.F.entry_extend_loop ?_
    rw [Around.under_plainId PySem.F.plain_extend_loop _]
    show wpAny _ A.in1 (pyNext (.ref z) >>= _) _ _ _
    refine wpAny_bind (z_item (s := { s with heap := h, toks := tk }) (A := A.in1) T hst hSl ex ey fun h' hst' ht hz hkp => ?_)
    dsimp only at ht hz hkp ⊢
    have hS' := hkp S _ T.Sz T.STO T.S1 T.S2 hS
    have up : ∀ b o, b ≠ S → h'.get? b = some o → (h'.update S (Obj.mapSeq (·.push (Value.ref h.objs.size)))).get? b = some o := fun b o hb e => (Heap.get?_update_other _ _ (Ne.symm hb)).trans e
    show wpAny _ A.in1 (updateSeq S (·.push (Value.ref h.objs.size)) >>= _) _ _ _
    refine wpAny_bind ?_
    have hnew : (h'.update S (Obj.mapSeq (·.push (Value.ref h.objs.size)))).get? h.objs.size = some { cls := .type "tuple", data := .seq #[xs[i], ys[i]] } := up _ _ (Nat.ne_of_gt hSl) ht
    refine wpAny_updateSeq hS' rfl (wpAny_pure ⟨plainId_quiet PySem.F.plain_extend_loop _, ih (i + 1) _ tk _ (acc.push (Value.ref h.objs.size)) (as ++ [h.objs.size]) (by omega) hlt (hst'.up T up) (fun b o e => ?_) (Heap.get?_update_self _ hS' rfl) (by rw [Array.toList_push, hacc, List.map_append]; rfl) (by rw [List.length_append, hal]; rfl) ⟨?_, ?_, ?_, ?_⟩ ?_⟩) (by rw [hsz]; omega) (by show (acc.push (Value.ref h.objs.size)).size ≤ sizeLine + 1; rw [Array.size_push, hsz]; omega)
    · obtain ⟨m1, m2, m3, m4, m5⟩ := old e
      exact up b o m5 (hkp b o m1 m2 m3 m4 (hkeep b o e))
    · refine List.pairwise_append.mpr ⟨hG.rise, List.pairwise_singleton _ _, fun a ha b hb => ?_⟩
      rw [List.mem_singleton.mp hb]
      exact hG.there a ha
    · intro a ha
      rcases List.mem_append.mp ha with ha | ha
      · exact hG.above a ha
      · rw [List.mem_singleton.mp ha]; exact hlo
    · intro a ha
      rcases List.mem_append.mp ha with ha | ha
      · exact Nat.lt_trans (hG.there a ha) (Heap.lt_size hnew)
      · rw [List.mem_singleton.mp ha]; exact Heap.lt_size hnew
    · intro j b hj
      rcases Nat.lt_trichotomy j as.length with g1 | g1 | g1
      · rw [List.getElem?_append_left g1] at hj
        obtain ⟨x, y, e1, e2, e3⟩ := hG.pairs j b hj
        obtain ⟨m1, m2, m3, m4, m5⟩ := far (hG.above b (List.mem_of_getElem? hj))
        exact ⟨x, y, e1, e2, up b _ m5 (hkp b _ m1 m2 m3 m4 e3)⟩
      · subst g1
        have hb : h.objs.size = b := by simpa using hj
        subst hb
        subst hal
        exact ⟨_, _, ex, ey, hnew⟩
      · rw [List.getElem?_eq_none (by rw [List.length_append, List.length_singleton]; omega)] at hj
        cases hj
    · exact Nat.le_of_lt (Nat.lt_of_le_of_lt hlo (Heap.lt_size hnew))
theorem z_list {Q : Value → Shared → Prop} {E : Value → Shared → Prop} (hh : A.handled = none) (D : ZipApart z TI TO i1 i2 l1 l2) (hn : min xs.size ys.size ≤ sizeLine) {N : Nat} {h₁ : Heap} (hN : N ≤ z ∧ N ≤ TO ∧ N ≤ i1 ∧ N ≤ i2) (hs1 : h₁.objs.size ≤ N)
    (hk1 : ∀ b o, h₁.get? b = some o → s.heap.get? b = some o) (hz : IsZip s.heap z TI TO .none) (hTI : IsPair s.heap TI (.ref i1) (.ref i2)) (hTO : ∃ a b, IsPair s.heap TO a b) (q1 : s.heap.IsListIter i1 l1 0) (q2 : s.heap.IsListIter i2 l2 0) (hl1 : s.heap.IsList l1 xs) (hl2 : s.heap.IsList l2 ys)
    (hQ : ∀ h' tk acc c as, (∀ b o, h₁.get? b = some o → h'.get? b = some o) → h'.get? s.heap.objs.size = some { cls := .type "list", dict := none, data := .seq acc c, slots := #[] } → as.length = min xs.size ys.size → Got xs ys (s.heap.objs.size + 1) h' as →
      acc.toList = as.map Value.ref → Q (.ref s.heap.objs.size) { s with heap := h', toks := tk }) : wpAny (model prog w) A (call (.type "list") [.ref z]) Q E s := by
  refine callType_codes (Q₁ := fun obj s₁ => obj = .ref s.heap.objs.size ∧ s₁ = { s with heap := s.heap.push { cls := .type "list", data := .seq #[] } }) PySem.F.called_list (PySem.F.typeCall_list_1 _) PySem.F.entry_list_init (code_list_new _ ⟨rfl, rfl⟩) fun obj s₁ h₂ => ?_
  obtain ⟨rfl, rfl⟩ := h₂
  have hS : (s.heap.push { cls := .type "list", data := .seq #[] }).get? s.heap.objs.size = some { cls := .type "list", data := .seq #[] } := Heap.get?_push_size _ rfl
  have lz : z < s.heap.objs.size := Heap.lt_size hz
  have lTI : TI < s.heap.objs.size := Heap.lt_size hTI
  have lTO : TO < s.heap.objs.size := by obtain ⟨_, _, e⟩ := hTO; exact Heap.lt_size e
  have li1 : i1 < s.heap.objs.size := by obtain ⟨_, e, _⟩ := id q1; exact Heap.lt_size e
  have li2 : i2 < s.heap.objs.size := by obtain ⟨_, e, _⟩ := id q2; exact Heap.lt_size e
  have ll1 : l1 < s.heap.objs.size := by obtain ⟨_, e, _⟩ := id hl1; exact Heap.lt_size e
  have ll2 : l2 < s.heap.objs.size := by obtain ⟨_, e, _⟩ := id hl2; exact Heap.lt_size e
  have T : Ats z TI TO i1 i2 l1 l2 s.heap.objs.size := ⟨D, Nat.ne_of_gt lz, Nat.ne_of_gt lTI, Nat.ne_of_gt lTO, Nat.ne_of_gt li1, Nat.ne_of_gt li2, Nat.ne_of_gt ll1, Nat.ne_of_gt ll2⟩
  have st0 : ZSt z TI TO i1 i2 l1 l2 s.heap.objs.size xs ys 0 s.heap := ⟨hTI, q1, q2, hl1, hl2, .inl ⟨hz, hTO⟩⟩
  refine ⟨⟨_, hS, rfl⟩, PySem.F.args_list_init_2 _ _, ?_⟩
  show wpAny _ _ (do let old ← Builtin.List.listItems (.ref s.heap.objs.size); Builtin.List.listUpdate (.ref s.heap.objs.size) (fun _ => #[]); letGo old.toList.reverse; Builtin.List.listExtendWith (.ref s.heap.objs.size) (.ref z) .none) _ _ _
  refine wpAny_bind ?_
  unfold Builtin.List.listItems
  refine wpAny_bind (wpAny_seqItems hS rfl (wpAny_pure ?_))
  show wpAny _ _ (updateSeq s.heap.objs.size (fun _ => #[]) >>= fun _ => letGo (#[] : Array Value).toList.reverse >>= fun _ => Builtin.List.listExtendWith (.ref s.heap.objs.size) (.ref z) .none) _ _ _
  refine wpAny_bind (wpAny_updateSeq hS rfl ?_)
  have hS₂ := Heap.get?_update_self (Obj.mapSeq (fun _ => (#[] : Array Value))) hS rfl
  have oth : ∀ b o, b ≠ s.heap.objs.size → (s.heap.push { cls := .type "list", data := .seq #[] }).get? b = some o → ((s.heap.push { cls := .type "list", data := .seq #[] }).update s.heap.objs.size (Obj.mapSeq (fun _ => (#[] : Array Value)))).get? b = some o :=
    fun b o hb e => (Heap.get?_update_other _ _ (Ne.symm hb)).trans e
  refine wpAny_bind (wpAny_letGo ?_)
  generalize hH : ((s.heap.push { cls := .type "list", data := .seq #[] }).update s.heap.objs.size (Obj.mapSeq (fun _ => (#[] : Array Value)))) = H2 at *
  have st2 : ZSt z TI TO i1 i2 l1 l2 s.heap.objs.size xs ys 0 H2 := st0.up T fun b o hb e => oth b o hb (Heap.get?_push_of_some _ e)
  have kp2 : ∀ b o, h₁.get? b = some o → H2.get? b = some o := fun b o e => by
    have lb := Heap.lt_size (hk1 b o e)
    exact oth b o (Nat.ne_of_lt lb) (Heap.get?_push_of_some _ (hk1 b o e))
  have hT : ∀ tk : Nat, (Shared.TypeIs { s with heap := H2, toks := tk } (.ref z) "zip") := fun tk => by
    obtain ⟨_, _, _, _, _, q6⟩ := st2
    rcases q6 with ⟨u, _⟩ | ⟨_, _, _, u, _⟩
    · exact ⟨_, u, rfl⟩
    · exact ⟨_, u, rfl⟩
  have hZ : IsZip H2 z TI TO .none := by
    have := oth z _ (Nat.ne_of_lt lz) (Heap.get?_push_of_some { cls := .type "list", data := .seq #[] } hz)
    exact this
  unfold Builtin.List.listExtendWith
  refine wpAny_bind (wpAny_typeOf (T := "zip") (hT s.toks) ?_)
  have e1 : Builtin.List.listSameRef (.ref s.heap.objs.size) (.ref z) = false := by simp [Builtin.List.listSameRef, T.Sz]
  have e2 : (Value.type "zip" == Value.type "list") = false := by decide
  have e3 : (Value.type "zip" == Value.type "tuple") = false := by decide
  simp only [e1, e2, e3, Bool.or_false, Bool.false_eq_true, if_false]
  refine wpAny_bind (wpAny_pyIter_zip hZ ?_)
  refine wpAny_bind (wpAny_holding ?_)
  unfold Builtin.List.listLengthHint
  refine wpAny_bind (wpAny_specialOf (hT s.toks) zl1 ?_)
  show wpAny _ _ (specialOf (Value.ref z) (Str.ofString "__length_hint__") >>= _) _ _ _
  refine wpAny_bind (wpAny_specialOf (hT s.toks) zl2 ?_)
  refine wpAny_pure ?_
  show wpAny _ _ (rule "list.extend.makes-room" >>= fun _ => Builtin.List.listTouch (.ref s.heap.objs.size) >>= fun _ => again (.builtin "list.extend.loop" ⟨[.ref s.heap.objs.size, .ref z, .none], []⟩)) _ _ _
  refine wpAny_bind (wpAny_rule ?_)
  refine wpAny_bind ?_
  show wpAny _ _ (updateSeq s.heap.objs.size (·.push .none) >>= fun _ => updateSeq s.heap.objs.size (·.pop)) _ _ _
  refine wpAny_bind (wpAny_updateSeq hS₂ rfl ?_)
  have hS₃ := Heap.get?_update_self (Obj.mapSeq (·.push Value.none)) hS₂ rfl
  refine wpAny_updateSeq (hz := by seq_fits) hS₃ rfl ?_
  have hS₄ := Heap.get?_update_self (Obj.mapSeq (·.pop)) hS₃ rfl
  have ot2 : ∀ b o, b ≠ s.heap.objs.size → H2.get? b = some o → ((H2.update s.heap.objs.size (Obj.mapSeq (·.push Value.none))).update s.heap.objs.size (Obj.mapSeq (·.pop))).get? b = some o :=
    fun b o hb e => (Heap.get?_update_other _ _ (Ne.symm hb)).trans ((Heap.get?_update_other _ _ (Ne.symm hb)).trans e)
  refine wpAny_pure ⟨plainId_quiet PySem.F.plain_extend_loop _, z_loop (A := A.in1) (s := s) (xs := xs) (ys := ys) hh T hn .none (lo := s.heap.objs.size + 1) ⟨Nat.lt_succ_of_lt lz, Nat.lt_succ_of_lt lTO, Nat.lt_succ_of_lt li1, Nat.lt_succ_of_lt li2, Nat.lt_succ_self _⟩ (N := N) (h₁ := h₁) ⟨hN.1, hN.2.1, hN.2.2.1, hN.2.2.2, Nat.le_trans hN.1 (Nat.le_of_lt lz)⟩ hs1
    (fun h' tk acc c as g1 g2 g3 g4 g5 => ?_) (min xs.size ys.size) 0 _ s.toks _ #[] [] (Nat.sub_zero _) (Nat.zero_le _) (st2.up T ot2) (fun b o e => ot2 b o (Nat.ne_of_lt (Heap.lt_size (hk1 b o e))) (kp2 b o e)) hS₄ rfl rfl ⟨List.Pairwise.nil, (fun _ ha => nomatch ha), (fun _ ha => nomatch ha), (fun j a hj => by simp at hj)⟩ (Nat.succ_le_of_lt (Heap.lt_size hS₄))⟩
  exact ⟨rfl, hQ h' tk acc c as g1 g2 g3 g4 g5⟩
end
end PySem.LZ

set_option Elab.async false
set_option linter.all false
set_option maxRecDepth 100000
set_option maxHeartbeats 2000000
/-! FK 16c: list(zip(a, b)), in the abstract heap. -/
namespace FK
open PySem PySem.Spec PyProof.Rows L2
def gLz : List D → Option B
  | [.list xs, .list ys] => if (pairsAt xs ys).length ≤ sizeLine then some (.ow (.list (pairsAt xs ys))) else none
  | _ => none
open Classical in
/-- the pairs and their list, laid -/
noncomputable def putZ (H : Hp) (S : Addr) (as : List Addr) (vs ws : List V) : Hp := fun b =>
  if b = S then some (.lst (as.map V.ref)) else if h : ∃ j, as[j]? = some b then some (.tup [vs.getD (choose h) .non, ws.getD (choose h) .non]) else H b
theorem RepL.of_get {K : Fg} {H : Hp} : ∀ {vs : List V} {ds : List D}, vs.length = ds.length → (∀ (j : Nat) (v : V) (d : D), vs[j]? = some v → ds[j]? = some d → Rep K H v d) → RepL K H vs ds
  | [], [], _, _ => .nil
  | [], _ :: _, h, _ => by simp at h
  | _ :: _, [], h, _ => by simp at h
  | v :: vs, d :: ds, h, q => .cons (q 0 v d rfl rfl) (RepL.of_get (by simpa using h) fun j v d h1 h2 => q (j + 1) v d (by simpa using h1) (by simpa using h2))
section
variable {X : Cx} {pins : List (Addr × Obj)} {σ : L2.St} {H : Hp} {s : Shared} {h' : Heap} {tk : Nat} {vs ws : List V} {us ts : List Value} {acc : Array Value} {c : Nat} {as : List Addr} {S lo : Addr}
theorem refs_vals : ∀ as : List Addr, Vals (as.map V.ref) (as.map Value.ref)
  | [] => .nil
  | _ :: as => .cons rfl (refs_vals as)
theorem putZ_S : putZ H S as vs ws S = some (.lst (as.map V.ref)) := if_pos rfl
theorem putZ_off {b : Addr} (h1 : b ≠ S) (h2 : b ∉ as) : putZ H S as vs ws b = H b := by
  unfold putZ
  rw [if_neg h1, dif_neg fun ⟨j, hj⟩ => h2 (List.mem_of_getElem? hj)]
theorem putZ_at {b : Addr} {j : Nat} (nd : as.Nodup) (h1 : b ≠ S) (h2 : as[j]? = some b) : putZ H S as vs ws b = some (.tup [vs.getD j .non, ws.getD j .non]) := by
  unfold putZ
  have hx : ∃ j, as[j]? = some b := ⟨j, h2⟩
  rw [if_neg h1, dif_pos hx]
  have hc := Classical.choose_spec hx
  have e : Classical.choose hx = j := by
    have l1 := (List.getElem?_eq_some_iff.mp hc)
    have l2 := (List.getElem?_eq_some_iff.mp h2)
    have pw := List.pairwise_iff_getElem.mp nd
    rcases Nat.lt_trichotomy (Classical.choose hx) j with q | q | q
    · exact absurd (l1.2.trans l2.2.symm) (pw _ _ l1.1 l2.1 q)
    · exact q
    · exact absurd (l2.2.trans l1.2.symm) (pw _ _ l2.1 l1.1 q)
  rw [e]
theorem laid_pairs (I : Inv X pins σ H s) (r1 : Vals vs us) (r2 : Vals ws ts) (hk : ∀ b o, s.heap.get? b = some o → h'.get? b = some o) (hlo : s.heap.objs.size ≤ S) (hlo2 : S < lo) (hS : h'.get? S = some { cls := .type "list", dict := none, data := .seq acc c, slots := #[] })
    (hz : as.length ≤ sizeLine) (hG : PySem.LZ.Got us.toArray ts.toArray lo h' as) (hacc : acc.toList = as.map Value.ref) : Inv X pins σ (putZ H S as vs ws) { s with heap := h', toks := tk } ∧ as.Nodup ∧ H S = none ∧ (∀ a ∈ as, H a = none ∧ a ≠ S) ∧
      ∀ (j : Nat) (a : Addr), as[j]? = some a → ∃ x y, vs[j]? = some x ∧ ws[j]? = some y ∧ putZ H S as vs ws a = some (.tup [x, y]) := by
  have nd : as.Nodup := List.Pairwise.imp (fun {a b} (h : a < b) => Nat.ne_of_lt h) hG.rise
  have newS : H S = none := I.hok.fresh hlo
  have ofar : ∀ a ∈ as, S < a := fun a ha => Nat.lt_of_lt_of_le hlo2 (hG.above a ha)
  have new : ∀ a ∈ as, H a = none ∧ a ≠ S := fun a ha => ⟨I.hok.fresh (Nat.le_trans hlo (Nat.le_of_lt (ofar a ha))), Nat.ne_of_gt (ofar a ha)⟩
  have at_ : ∀ (j : Nat) (a : Addr), as[j]? = some a → ∃ x y u t, vs[j]? = some x ∧ ws[j]? = some y ∧ putZ H S as vs ws a = some (.tup [x, y]) ∧ RelV x u ∧ RelV y t ∧ h'.get? a = some { cls := .type "tuple", data := .seq #[u, t] } := fun j a ha => by
    obtain ⟨u, t, e1, e2, e3⟩ := hG.pairs j a ha
    have e1 : us[j]? = some u := by simpa using e1
    have e2 : ts[j]? = some t := by simpa using e2
    have lv : j < vs.length := by rw [r1.length]; exact (List.getElem?_eq_some_iff.mp e1).1
    have lw : j < ws.length := by rw [r2.length]; exact (List.getElem?_eq_some_iff.mp e2).1
    have gx : vs[j]? = some vs[j] := List.getElem?_eq_getElem lv
    have gy : ws[j]? = some ws[j] := List.getElem?_eq_getElem lw
    obtain ⟨u', q1, q2⟩ := r1.get gx
    obtain ⟨t', q3, q4⟩ := r2.get gy
    rw [e1] at q1; cases q1
    rw [e2] at q3; cases q3
    refine ⟨vs[j], ws[j], u, t, gx, gy, ?_, q2, q4, e3⟩
    rw [putZ_at nd (new a (List.mem_of_getElem? ha)).2 ha, List.getD_eq_getElem?_getD, List.getD_eq_getElem?_getD, gx, gy]; rfl
  have kp : ∀ b u, H b = some u → putZ H S as vs ws b = some u := fun b u e => by
    rw [putZ_off (fun z => by rw [z, newS] at e; cases e) (fun z => by rw [(new b z).1] at e; cases e), e]
  refine ⟨?_, nd, newS, new, fun j a ha => by
    obtain ⟨x, y, _, _, q1, q2, q3, _⟩ := at_ j a ha
    exact ⟨x, y, q1, q2, q3⟩⟩
  refine I.call' (ch := []) rfl ⟨fun b o q _ _ _ => hk b o q, fun b o q _ _ _ => ⟨o.slots, hk b o q⟩, fun b o q n _ => ?_, fun b o q _ => ⟨o, hk b o q⟩, fun b xs q => kp b _ q, fun b o u q => kp b _ q, fun b ps q => ⟨#[], by rw [kp b _ q]; simp⟩⟩ (fun b u q => ?_) I.bare fun b z => by simp at z
  · have lb := Heap.lt_size q
    rw [putZ_off (Nat.ne_of_lt (Nat.lt_of_lt_of_le lb hlo)) fun z => absurd lb (Nat.not_lt.mpr (Nat.le_trans hlo (Nat.le_of_lt (ofar b z))))]
    exact n
  · by_cases hS2 : b = S
    · subst hS2
      rw [putZ_S] at q
      cases q
      refine ⟨by rw [List.length_map]; exact hz, acc.toList, c, by rw [hacc]; exact refs_vals as, ?_⟩
      rw [Array.toArray_toList]; exact hS
    · by_cases hb : b ∈ as
      · obtain ⟨j, hj⟩ := List.mem_iff_getElem?.mp hb
        obtain ⟨x, y, u', t', q1, q2, q3, q4, q5, q6⟩ := at_ j b hj
        rw [q3] at q
        cases q
        exact ⟨by show 2 ≤ sizeLine; decide, [u', t'], .cons q4 (.cons q5 .nil), ⟨_, q6, rfl, _, rfl⟩⟩
      · rw [putZ_off hS2 hb] at q
        exact (I.hok b u q).stay (fun d v _ y => hk d v y) (fun d y => kp d _ y) fun d xs y => kp d _ y
end
section
variable {X : Cx} {T : Tx} {W : WX} {k : Nat} {l m : List Nat} {a b : Expr} {fs : SA} {pos p p1 p2 : Pos}
theorem lz_ (C : Cxt X T W k l m) (h1 : X.mg "list" = none) (h2 : X.mg "zip" = none) (g1 : Gl X "list") (g2 : Gl X "zip") (ha : PA X [a, b] (tA T W fs))
    (hs : starEach [a, b] X.env = (false, eval a X.env) :: starEach [b] X.env) (hpl : (backTo p2 (starEach [b] X.env)).any (·.1) = false) (hs2 : starEach [.Call (.Name "zip" p1) [a, b] [] p2] X.env = (false, eval (.Call (.Name "zip" p1) [a, b] [] p2) X.env) :: starEach [] X.env) :
    PE X (.Call (.Name "list" p) [.Call (.Name "zip" p1) [a, b] [] p2] [] pos) (tE T W (sApp gLz fs)) := by
  refine ⟨fun pins s σ H Q I h => ?_⟩
  refine Call_ (ld_blt I g1 h1 boot_list (PyProof.Rows.callWith_type1 ?_ hs2 rfl))
  rw [hs2]
  show wpAny _ _ (spliced ((false, eval (.Call (.Name "zip" p1) [a, b] [] p2) X.env) :: backTo pos (starEach [] X.env))) _ _ s
  refine Calls.spliced_cons ?_
  obtain ⟨Hz, ρ, F, z, h⟩ := h
  refine Call_ (ld_blt I g2 h2 PyProof.Rows.boot_zip (PyProof.Rows.callWith_type1 (thn (ha.run p2 pins s σ H _ I ⟨Hz, ρ, F, z, Aft.bnd (P := PL T.K) h⟩) fun us s1 ⟨vs, H1, I1, r1, Hz1, F1, ds, ρ1, z1, s1', rl, q1⟩ => ?_) hs hpl))
  cases hg : gLz ds with
  | none => rw [hg] at q1; cases q1
  | some bb =>
    rw [hg] at q1
    unfold gLz at hg
    split at hg
    · rename_i es1 es2
      split at hg
      · rename_i hes
        cases hg
        have q1 : Aft T W Hz H F σ (PB T.K F) (.ok (.ow (.list (pairsAt es1 es2))) ρ1) Q := q1
        obtain ⟨v, vs', rfl, ra, t⟩ := RepL.ge rl
        obtain ⟨v2, vs2, rfl, rb, t2⟩ := RepL.ge t
        cases t2
        obtain ⟨u1, u2, rfl, rv1, rv2⟩ := vals2 r1
        cases ra with
        | @lst la xs _ ha1 ka =>
          cases rb with
          | @lst lb ys _ hb1 kb =>
            cases rv1; cases rv2
            obtain ⟨its, w1, pl1, _⟩ := I1.list (by rw [C.hK]; exact sqL_same z1.sub ha1)
            obtain ⟨its2, w2, pl2, _⟩ := I1.list (by rw [C.hK]; exact sqL_same z1.sub hb1)
            refine call_zip_2 pl1.isList pl2.isList fun h3 k1 k2 k3 k4 k5 k6 k7 => ?_
            refine Calls.spliced_nil ?_
            have l1 := w1.length; have l2 := w2.length; have l3 := ka.length; have l4 := kb.length
            have lmin : (pairsAt es1 es2).length = min its.toArray.size its2.toArray.size := by
              unfold pairsAt
              rw [List.length_zipWith, List.size_toArray, List.size_toArray]; omega
            refine PySem.LZ.z_list (s := { s1 with heap := h3 }) (I.ok.hd C.calm) (PySem.W.ktu_apart s1.heap.objs.size la lb pl1.lt pl2.lt) (by rw [← lmin]; exact hes) (N := s1.heap.objs.size) (h₁ := s1.heap) ⟨Nat.le_add_right _ _, Nat.le_add_right _ _, Nat.le_refl _, Nat.le_add_right _ _⟩ (Nat.le_refl _) k7 k1 k2 ⟨_, _, k3⟩ k4 k5
              (pl1.isList.at fun o e => k7 _ o e) (pl2.isList.at fun o e => k7 _ o e) fun h' tk acc c as m1 m2 m3 m4 m5 => ?_
            have m2 : h'.get? h3.objs.size = some { cls := .type "list", dict := none, data := .seq acc c, slots := #[] } := m2
            have m4 : PySem.LZ.Got its.toArray its2.toArray (h3.objs.size + 1) h' as := m4
            obtain ⟨J, nd, newS, new, at_⟩ := laid_pairs (tk := tk) (S := h3.objs.size) I1 w1 w2 m1 (by rw [k6]; exact Nat.le_add_right _ _) (Nat.lt_succ_self _) m2 (by rw [m3, ← lmin]; exact hes) m4 m5
            refine ⟨.ref h3.objs.size, putZ H1 h3.objs.size as xs ys, J, rfl, ?_⟩
            refine (q1.fromB s1').made z1 ?_
            have kp : Same H1 (putZ H1 h3.objs.size as xs ys) := fun b u e => by
              rw [putZ_off (fun z => by rw [z, newS] at e; cases e) (fun z => by rw [(new b z).1] at e; cases e), e]
            have sz : Same Hz1 (fun b => if b ∈ as then putZ H1 h3.objs.size as xs ys b else Hz1 b) := fun b u e => by
              show (if b ∈ as then _ else _) = _
              rw [if_neg (fun z => by rw [z1.sub.free (new b z).1] at e; cases e), e]
            refine ⟨fun b => if b ∈ as then putZ H1 h3.objs.size as xs ys b else Hz1 b, [h3.objs.size], sz, kp, fun b u e => ?_, fun b hb => ?_, ⟨h3.objs.size, rfl, rfl, as.map V.ref, putZ_S, ?_⟩, fun b hb => ?_⟩
            · have e : (if b ∈ as then putZ H1 h3.objs.size as xs ys b else Hz1 b) = some u := e
              by_cases hm : b ∈ as
              · rw [if_pos hm] at e; exact e
              · rw [if_neg hm] at e; exact kp b u (z1.sub b u e)
            · by_cases hm : b ∈ as
              · exact .inr (new b hm).1
              · have hb : (if b ∈ as then putZ H1 h3.objs.size as xs ys b else Hz1 b) ≠ none := hb
                rw [if_neg hm] at hb
                exact .inl hb
            · refine RepL.of_get (by rw [List.length_map, m3, lmin]) fun j v d hv hd => ?_
              rw [List.getElem?_map] at hv
              cases haj : as[j]? with
              | none => rw [haj] at hv; cases hv
              | some aa =>
                rw [haj] at hv
                cases hv
                obtain ⟨x, y, g1', g2', g3'⟩ := at_ j aa haj
                obtain ⟨dx, e1, e2⟩ := ka.get g1'
                obtain ⟨dy, e3, e4⟩ := kb.get g2'
                unfold pairsAt at hd
                rw [List.getElem?_zipWith, e1, e3] at hd
                cases hd
                refine .tup (xs := [x, y]) (.inl (.inl ?_)) (.cons (e2.mono sz) (.cons (e4.mono sz) .nil)) fun _ => ?_ <;>
                · show (if aa ∈ as then _ else _) = _
                  rw [if_pos (List.mem_of_getElem? haj), g3']
            · have e : b = h3.objs.size := by simpa using hb
              subst e
              refine ⟨?_, newS⟩
              show (if h3.objs.size ∈ as then _ else _) = _
              rw [if_neg fun z => (new _ z).2 rfl, z1.sub.free newS]
      · cases hg
    · cases hg
end
end FK

set_option Elab.async false
set_option linter.all false
set_option maxRecDepth 100000
/-! FK 17: more expressions. -/
namespace FK
open PySem PySem.Spec PyProof.Rows L2
def sMk (b : B) : SE := fun ρ => .ok b ρ
section
variable {X : Cx} {T : Tx} {W : WX} {k : Nat} {l m : List Nat} {a b c e : Expr} {es : List Expr} {f fa fb fc : SE} {fs : SA} {fv : SAv} {ct et : STs} {P : List Nat} {pos p p1 p2 apos : Pos}
theorem New.dK {K : Fg} {Hz H : Hp} {p : Addr} (s : Same Hz H) (h : H p = none) : New K Hz H (.ow (.dict [])) (.ref p) (upd H p (.dK [])) :=
  ⟨Hz, [p], .refl _, same_push h, s.trans (same_push h), fun a e => .inl e, ⟨p, rfl, rfl, .inl ⟨[], upd_same, .nil⟩⟩, fun a ha => by
    have e : a = p := by simpa using ha
    subst e; exact ⟨s.free h, h⟩⟩
theorem e_dict0 : PE X (.Dict [] [] pos) (tE T W (sMk (.ow (.dict [])))) := PE.mono pe_dnewK fun σ H Q ⟨Hz, ρ, F, z, h⟩ => fun p hp => Aft.made (ρ := ρ) h z (.dK z.sub hp)
end
/-- the law's own call -/
theorem law_ends {K : Fg} {T : Tx} (hT : T.K = K) {pds : List PD} {i k : Nat} {a : Addr} {H : Hp} {ns : List Int} (hn : (pds.getD i PD.none).np = 1) (hS : SqL K H a (ns.map V.int)) (h : ∃ ρ, sem pds k i [.fr (.list (ns.map .int))] = .ok (.fr (.bool true)) ρ) :
    spF T (pds.getD i PD.none).np (sem pds k i) [.ref a] H (fun v _ => v = .bl true) fun _ _ _ => False := by
  subst hT
  obtain ⟨ρ', h⟩ := h
  refine ⟨by rw [hn]; rfl, H, [.fr (.list (ns.map .int))], fun _ => [], ⟨.refl _, rfl, fun j b hb hno => ?_, (fun _ _ h => nomatch h), (fun _ _ _ h => nomatch h), fun _ _ => rfl⟩, ?_⟩
  · cases j with
    | zero =>
      have e : b = .fr (.list (ns.map .int)) := by simpa using hb.symm
      subst e
      exact ⟨.ref a, rfl, rfl, .lst hS (RepL.ints ns)⟩
    | succ j => simp at hb
  · rw [h]
    intro v Hz' H' F' z st pb
    obtain ⟨fp, m, _⟩ := pb
    exact rep_bl m.2
theorem walk_E {l : PySem.W.OpenLaw} {n k : Nat} {q : Program} {loose : List Str} {XP : (Str → Option Value) → Heap → Prop} {YP : World → Heap → Prop} {d : DefRec} {x : Str}
    (hn : l.most = some n) (hn2 : n ≤ sizeLine) (hdf : d.params.defaults = []) (hr : Room k callerA)
    (F : ∀ (w : World) (mg : Str → Option Value) (fa : Addr) (h : Heap), YP w h → h.Ns mainGlobals mg → mg d.name = some (.ref fa) →
      ∃ (K : Fg) (fd : FuncData) (sp : Sp), K.In h ∧ (∀ (s : Shared) (u : Value), BindsTo s fd ⟨[u], []⟩ [(x, u)]) ∧
        (∀ (H : Hp) (a : Addr) (ns : List Int), ns.length ≤ n → (∀ z ∈ ns, Builtin.Int.intBits z ≤ 1048576) → SqL K H a (ns.map V.int) → sp [.ref a] H (fun v _ => v = .bl true) fun _ _ _ => False) ∧
        ∀ base : Heap, K.In base → base.Ns mainGlobals mg → FnOk l.prog w K mg base (L2.CX l.prog w) k fa fd [x] sp) :
    PySem.W.WalkO q loose XP YP l.row.toRowW d [] (fun f vs => PySem.call f vs) := by
  refine Att.attach_callB hn hdf fun w s₀ s₁ mg mb fa o pm cd doc a vs ns G Y ho hd hcd hmg hobj hints hlen hbits hg => ?_
  obtain ⟨K, fd, sp, KX, hb, hsp, hF⟩ := F w mg fa _ Y G.T.g hmg
  exact law_call KX G.T.g G.T.b G.T.builtins G.T.nolimit hg hobj hints (Nat.le_trans hlen hn2) hr hF hb (fun H _ hS => hsp H a ns hlen hbits hS) fun H e s' ⟨_, _, _, _, _, _, _, _, _, _, _, _, hE⟩ => hE
end FK

set_option Elab.async false
set_option linter.all false
set_option maxRecDepth 100000
/-! FK 18: the plain side: how closures answer. -/
namespace FK
open PySem PySem.Spec PyProof.Rows L2
open PySem.W (alike dataLt)
section
variable {α β : Type} {ρ ρ' : Env}
@[simp] theorem bnd_ok {a : α} {k : α → Env → Rs β} : (Rs.ok a ρ).bnd k = k a ρ := rfl
@[simp] theorem frd_fr {d : D} {k : D → Env → Rs β} : (Rs.ok (.fr d) ρ).frd k = k d ρ := rfl
@[simp] theorem frd_ow {d : D} {k : D → Env → Rs β} : (Rs.ok (.ow d) ρ).frd k = k d ρ := rfl
@[simp] theorem bS_ok {a : α} {k : α → Env → RS} : (Rs.ok a ρ).bS k = k a ρ := rfl
@[simp] theorem frS_fr {d : D} {k : D → Env → RS} : Rs.frS (.ok (.fr d) ρ) k = k d ρ := rfl
@[simp] theorem frS_ow {d : D} {k : D → Env → RS} : Rs.frS (.ok (.ow d) ρ) k = k d ρ := rfl
@[simp] theorem bnd_exc {x : Xn} {k : α → Env → Rs β} : (Rs.exc x ρ : Rs α).bnd k = .exc x ρ := rfl
@[simp] theorem frd_exc {x : Xn} {k : D → Env → Rs β} : (Rs.exc x ρ : RE).frd k = .exc x ρ := rfl
@[simp] theorem bS_exc {x : Xn} {k : α → Env → RS} : (Rs.exc x ρ : Rs α).bS k = .exc x ρ := rfl
@[simp] theorem frS_exc {x : Xn} {k : D → Env → RS} : Rs.frS (.exc x ρ) k = .exc x ρ := rfl
@[simp] theorem lft_some {a : α} : lft (some a) ρ = .ok a ρ := rfl
@[simp] theorem frz_fr {d : D} : frz (.fr d) = some d := rfl
@[simp] theorem frz_ow {d : D} : frz (.ow d) = some d := rfl
end
section
variable {a0 : B} {ρ : Env} {g g' : D → D → Option B} {g1 : D → Option B} {gn : List D → Option B} {f fa fb fc : SE} {fs : SA} {c ct et : STs} {S S' : SS} {fv : SAv} {i n : Nat} {d : D}
@[simp] theorem sVar_eq : sVar i (a0 :: ρ) = (match (a0 :: ρ)[i]? with
  | some (.fr d) => .ok (.fr d) (a0 :: ρ)
  | _ => .bad) := rfl
@[simp] theorem sC_eq : sC d (a0 :: ρ) = .ok (.fr d) (a0 :: ρ) := rfl
@[simp] theorem sMk_eq {b : B} : sMk b (a0 :: ρ) = .ok b (a0 :: ρ) := rfl
@[simp] theorem sBin_eq : sBin g fa fb (a0 :: ρ) = (fa (a0 :: ρ)).frd fun x ρ1 => (fb ρ1).frd fun y ρ2 => lft (g x y) ρ2 := rfl
@[simp] theorem sUn_eq : sUn g1 fa (a0 :: ρ) = (fa (a0 :: ρ)).frd fun x ρ1 => lft (g1 x) ρ1 := rfl
@[simp] theorem sNil_eq : sNil (a0 :: ρ) = .ok [] (a0 :: ρ) := rfl
@[simp] theorem sCons_eq : sCons fa fs (a0 :: ρ) = (fa (a0 :: ρ)).frd fun x ρ1 => (fs ρ1).bnd fun xs ρ2 => .ok (x :: xs) ρ2 := rfl
@[simp] theorem sApp_eq : sApp gn fs (a0 :: ρ) = (fs (a0 :: ρ)).bnd fun xs ρ1 => lft (gn xs) ρ1 := rfl
@[simp] theorem sTru_eq : sTru fa (a0 :: ρ) = (fa (a0 :: ρ)).frd fun x ρ1 => if okTruth x then .ok (truth x) ρ1 else .bad := rfl
@[simp] theorem sTest_eq : sTest fa (a0 :: ρ) = (fa (a0 :: ρ)).frd fun x ρ1 => lft (bOf x) ρ1 := rfl
@[simp] theorem sNotV_eq : sNotV fa (a0 :: ρ) = (fa (a0 :: ρ)).frd fun x ρ1 => if okTruth x then .ok (.fr (.bool (!truth x))) ρ1 else .bad := rfl
@[simp] theorem sNotT_eq : sNotT c (a0 :: ρ) = (c (a0 :: ρ)).bnd fun b ρ1 => .ok (!b) ρ1 := rfl
@[simp] theorem sAndT_eq : sAndT c et (a0 :: ρ) = (c (a0 :: ρ)).bnd fun b ρ1 => if b = true then et ρ1 else .ok false ρ1 := rfl
@[simp] theorem sOrT_eq : sOrT c et (a0 :: ρ) = (c (a0 :: ρ)).bnd fun b ρ1 => if b = true then .ok true ρ1 else et ρ1 := rfl
@[simp] theorem sIf_eq : sIf c fa fb (a0 :: ρ) = (c (a0 :: ρ)).bnd fun b ρ1 => if b = true then fa ρ1 else fb ρ1 := rfl
@[simp] theorem sOrV_eq : sOrV fa fb (a0 :: ρ) = (fa (a0 :: ρ)).frd fun x ρ1 => if okTruth x then (if truth x = true then .ok (.fr x) ρ1 else fb ρ1) else .bad := rfl
@[simp] theorem sAndV_eq : sAndV fa fb (a0 :: ρ) = (fa (a0 :: ρ)).frd fun x ρ1 => if okTruth x then (if truth x = true then fb ρ1 else .ok (.fr x) ρ1) else .bad := rfl
@[simp] theorem sChain_eq : sChain g g' fa fb fc (a0 :: ρ) = (fa (a0 :: ρ)).frd fun x ρ1 => (fb ρ1).frd fun y ρ2 => (lft (g x y) ρ2).frd fun w ρ3 => (lft (bOf w) ρ3).bnd fun k ρ4 =>
  if k = true then (fc ρ4).frd fun z ρ5 => lft (g' y z) ρ5 else .ok (.fr (.bool false)) ρ4 := rfl
@[simp] theorem sSeq_eq : sSeq S S' (a0 :: ρ) = (match S (a0 :: ρ) with
  | .nx ρ' => S' ρ'
  | r => r) := rfl
@[simp] theorem sNext_eq : sNext (a0 :: ρ) = .nx (a0 :: ρ) := rfl
@[simp] theorem sExpr_eq : sExpr f (a0 :: ρ) = (f (a0 :: ρ)).bS fun _ ρ1 => .nx ρ1 := rfl
@[simp] theorem sRet_eq : sRet f (a0 :: ρ) = (f (a0 :: ρ)).bS fun b ρ1 => .rt b ρ1 := rfl
@[simp] theorem sMove_eq : sMove i (a0 :: ρ) = (match (a0 :: ρ)[i]? with
  | some (.fr d) => .ok (.fr d) (a0 :: ρ)
  | some (.ow d) => .ok (.ow d) ((a0 :: ρ).set i .no)
  | _ => .bad) := rfl
@[simp] theorem sIfS_eq : sIfS c S S' (a0 :: ρ) = (c (a0 :: ρ)).bS fun b ρ1 => if b = true then S ρ1 else S' ρ1 := rfl
@[simp] theorem frB_fr {k : Bool} : frB k (.fr d) = some (.fr d) := rfl
@[simp] theorem frB_owT : frB true (.ow d) = some (.ow d) := rfl
@[simp] theorem frB_owF : frB false (.ow d) = some (.fr d) := rfl
@[simp] theorem sSet_eq {k : Bool} : sSet k i f (a0 :: ρ) = (f (a0 :: ρ)).bS fun b ρ1 => match frB k b with
  | some b' => if i < ρ1.length then .nx (ρ1.set i b') else .bad
  | none => .bad := rfl
@[simp] theorem sAsg_eq {h : SG} : sAsg f h (a0 :: ρ) = (f (a0 :: ρ)).bS fun b ρ1 => match frz b with
  | some d => (match h d ρ1 with
    | some ρ2 => .nx ρ2
    | none => .bad)
  | none => .bad := rfl
@[simp] theorem sPar_eq {k1 k2 : Bool} {j : Nat} : sPar k1 k2 i j fa fb (a0 :: ρ) = (fa (a0 :: ρ)).bS fun b1 ρ1 => match frB k1 b1 with
  | none => .bad
  | some c1 => (fb ρ1).bS fun b2 ρ2 => match frB k2 b2 with
    | none => .bad
    | some c2 => if i < ρ2.length ∧ j < ρ2.length then .nx ((ρ2.set i c1).set j c2) else .bad := rfl
@[simp] theorem sFor_eq {it : SI} {h : SG} : sFor it h S (a0 :: ρ) = (it (a0 :: ρ)).bS fun ds ρ1 => forR h S ds ρ1 := rfl
@[simp] theorem sLc_eq {vs : List Nat} {it : SI} {h : SG} : sLc vs it h ct f (a0 :: ρ) = (it (a0 :: ρ)).bnd fun ds ρ1 => lcR vs h ct f ds [] ρ1 := rfl
@[simp] theorem sYes_eq : sYes (a0 :: ρ) = .ok true (a0 :: ρ) := rfl
@[simp] theorem vNil_eq : vNil (a0 :: ρ) = .ok [] (a0 :: ρ) := rfl
@[simp] theorem vVal_eq : vVal f fv (a0 :: ρ) = (f (a0 :: ρ)).frd fun d ρ1 => (fv ρ1).bnd fun l ρ2 => .ok (.val d :: l) ρ2 := rfl
@[simp] theorem vIo_eq : vIo i fv (a0 :: ρ) = (match (a0 :: ρ)[i]? with
  | some (.fr d) => (fv (a0 :: ρ)).bnd fun l ρ2 => .ok (.val d :: l) ρ2
  | some (.ow _) => (fv (a0 :: ρ)).bnd fun l ρ2 => .ok (.io i :: l) ρ2
  | _ => .bad) := rfl
@[simp] theorem sCall_eq : sCall f fv (a0 :: ρ) = (fv (a0 :: ρ)).bnd fun l ρ1 => if nodupB (ios l) = true then (match mkArgs ρ1 l with
    | some bs => (match f bs with
      | .ok b os => .ok b (backs l os ρ1)
      | .exc x os => .exc x (backs l os ρ1)
      | .bad => .bad)
    | none => .bad) else .bad := rfl
@[simp] theorem sSetL_eq {fi : SE} : sSetL i fi f (a0 :: ρ) = (f (a0 :: ρ)).frS fun d ρ1 => if (owL ρ1 i).isSome = true then (fi ρ1).frS fun k ρ2 => match (owL ρ2 i).bind fun ds => setAt ds k d with
  | some ds' => .nx (ρ2.set i (.ow (.list ds')))
  | none => .bad else .bad := rfl
@[simp] theorem ios_nil : ios [] = [] := rfl
@[simp] theorem ios_val {l : List AV} : ios (.val d :: l) = ios l := rfl
@[simp] theorem ios_io {l : List AV} : ios (.io i :: l) = i :: ios l := rfl
@[simp] theorem nodupB_nil : nodupB [] = true := rfl
@[simp] theorem nodupB_one : nodupB [i] = true := rfl
@[simp] theorem mkArgs_nil : mkArgs (a0 :: ρ) [] = some [] := rfl
@[simp] theorem mkArgs_val {l : List AV} : mkArgs (a0 :: ρ) (.val d :: l) = (mkArgs (a0 :: ρ) l).map (.fr d :: ·) := rfl
@[simp] theorem mkArgs_io {l : List AV} : mkArgs (a0 :: ρ) (.io i :: l) = (match (a0 :: ρ)[i]? with
    | some (.ow d) => (mkArgs (a0 :: ρ) l).map (.ow d :: ·)
    | _ => none) := rfl
@[simp] theorem backs_nil {os : List B} : backs [] os (a0 :: ρ) = (a0 :: ρ) := by unfold backs; rfl
@[simp] theorem backs_io {l : List AV} {b : B} {bs : List B} : backs (.io i :: l) (b :: bs) (a0 :: ρ) = backs l bs ((a0 :: ρ).set i b) := rfl
@[simp] theorem backs_val {l : List AV} {b : B} {bs : List B} : backs (.val d :: l) (b :: bs) (a0 :: ρ) = backs l bs (a0 :: ρ) := rfl
@[simp] theorem gNm_eq : gNm i d (a0 :: ρ) = if i < (a0 :: ρ).length then some ((a0 :: ρ).set i (.fr d)) else none := rfl
@[simp] theorem gTp_tup {h : SGs} {ds : List D} : gTp n h (.tuple ds) (a0 :: ρ) = if ds.length = n then h ds (a0 :: ρ) else none := rfl
@[simp] theorem gTp_lst {h : SGs} {ds : List D} : gTp n h (.list ds) (a0 :: ρ) = if ds.length = n then h ds (a0 :: ρ) else none := rfl
@[simp] theorem gsNil_eq : gsNil [] (a0 :: ρ) = some (a0 :: ρ) := rfl
@[simp] theorem gsCons_eq {h : SG} {h' : SGs} {ds : List D} : gsCons h h' (d :: ds) (a0 :: ρ) = (h d (a0 :: ρ)).bind fun ρ1 => h' ds ρ1 := rfl
@[simp] theorem iSeq_eq : iSeq f (a0 :: ρ) = (f (a0 :: ρ)).frd fun d ρ1 => lft (itD d) ρ1 := rfl
@[simp] theorem iRng_eq {h : List D → Option (List D)} : iRng h fs (a0 :: ρ) = (fs (a0 :: ρ)).bnd fun ds ρ1 => lft (h ds) ρ1 := rfl
@[simp] theorem pNone_eq : pNone (a0 :: ρ) = .ok none (a0 :: ρ) := rfl
@[simp] theorem pSome_eq : pSome f (a0 :: ρ) = (f (a0 :: ρ)).frd fun d ρ1 => (lft (intOf d) ρ1).bnd fun i ρ2 => .ok (some i) ρ2 := rfl
@[simp] theorem intOf_int {z : Int} : intOf (.int z) = some z := rfl
@[simp] theorem sSl_eq {lo hi : SP} : sSl f lo hi (a0 :: ρ) = (f (a0 :: ρ)).frd fun x ρ1 => (lo ρ1).bnd fun l ρ2 => (hi ρ2).bnd fun u ρ3 => lft (gSl x l u) ρ3 := rfl
@[simp] theorem sStrM_eq : sStrM g fa fb (a0 :: ρ) = (fa (a0 :: ρ)).frd fun x ρ1 => if isStr x = true then (fb ρ1).frd fun y ρ2 => lft (g x y) ρ2 else .bad := rfl
@[simp] theorem isStr_str {z : Str} : isStr (.str z) = true := rfl
@[simp] theorem sAppend_eq : sAppend i f (a0 :: ρ) = if (owL (a0 :: ρ) i).isSome = true then (f (a0 :: ρ)).frS fun d ρ1 => match owL ρ1 i with
  | some ds => if ds.length < sizeLine then .nx (ρ1.set i (.ow (.list (ds ++ [d])))) else .bad
  | none => .bad else .bad := rfl
@[simp] theorem sLend_eq : sLend i f (a0 :: ρ) = (match (a0 :: ρ)[i]? with
  | some (.ow d) => (f ((a0 :: ρ).set i (.fr d))).bnd fun b ρ' => if okBack i d b (a0 :: ρ) ρ' = true then .ok b (ρ'.set i (.ow d)) else .ok b ρ'
  | _ => f (a0 :: ρ)) := rfl
@[simp] theorem sLendT_eq : sLendT i c (a0 :: ρ) = (match (a0 :: ρ)[i]? with
  | some (.ow d) => (c ((a0 :: ρ).set i (.fr d))).bnd fun b ρ' => if okBack i d .no (a0 :: ρ) ρ' = true then .ok b (ρ'.set i (.ow d)) else .ok b ρ'
  | _ => c (a0 :: ρ)) := rfl
@[simp] theorem bOf_bool {b : Bool} : bOf (.bool b) = some b := rfl
@[simp] theorem truth_bool {b : Bool} : truth (.bool b) = b := rfl
@[simp] theorem okTruth_bool {b : Bool} : okTruth (.bool b) = true := rfl
@[simp] theorem forR_nil {h : SG} : forR h S [] (a0 :: ρ) = .nx (a0 :: ρ) := rfl
end
/-- a name lent: the others are such that nothing of it may be kept -/
def chk (i : Nat) : Nat → List B → List B → Prop
  | n, a :: ρ, c :: ρ' => (n = i ∨ pureB c = true ∨ (a = c ∧ isFr c = true)) ∧ chk i (n + 1) ρ ρ'
  | n, [], c :: ρ' => (n = i ∨ pureB c = true) ∧ chk i (n + 1) [] ρ'
  | _, _, [] => True
theorem chk_get {i : Nat} : ∀ {ρ' ρ : List B} {n : Nat}, chk i n ρ ρ' → ∀ j, n + j ≠ i → ∀ c, ρ'[j]? = some c → pureB c = true ∨ (ρ[j]? = some c ∧ isFr c = true)
  | [], _, _, _, j, _, c, e => by simp at e
  | c :: ρ', a :: ρ, n, h, 0, hj, c', e => by
    have e : c = c' := by simpa using e
    subst e
    unfold chk at h
    rcases h.1 with w | w | w
    · exact absurd w hj
    · exact .inl w
    · exact .inr ⟨by rw [w.1]; rfl, w.2⟩
  | c :: ρ', [], n, h, 0, hj, c', e => by
    have e : c = c' := by simpa using e
    subst e
    unfold chk at h
    rcases h.1 with w | w
    · exact absurd w hj
    · exact .inl w
  | c :: ρ', a :: ρ, n, h, j + 1, hj, c', e => by
    unfold chk at h
    simpa using chk_get h.2 j (by omega) c' (by simpa using e)
  | c :: ρ', [], n, h, j + 1, hj, c', e => by
    unfold chk at h
    rcases chk_get h.2 j (by omega) c' (by simpa using e) with w | w
    · exact .inl w
    · simp at w
theorem okBack_of {i : Nat} {d : D} {b : B} {ρ ρ' : Env} (h1 : pureB b = true) (h2 : ρ'[i]? = some (.fr d)) (h3 : chk i 0 ρ ρ') : okBack i d b ρ ρ' = true := by
  unfold okBack
  simp only [Bool.and_eq_true, decide_eq_true_eq]
  exact ⟨⟨h1, h2⟩, fun j hj c e => chk_get h3 j (by omega) c e⟩
@[simp] theorem okBack_iff {i : Nat} {d : D} {b : B} {ρ ρ' : Env} (h : pureB b = true ∧ ρ'[i]? = some (.fr d) ∧ chk i 0 ρ ρ') : okBack i d b ρ ρ' = true := okBack_of h.1 h.2.1 h.2.2
@[simp] theorem chk_cons {i n : Nat} {a c : B} {ρ ρ' : List B} : chk i n (a :: ρ) (c :: ρ') = ((n = i ∨ pureB c = true ∨ (a = c ∧ isFr c = true)) ∧ chk i (n + 1) ρ ρ') := by rw [chk]
@[simp] theorem chk_nil {i n : Nat} {ρ : List B} : chk i n ρ [] = True := by cases ρ <;> rw [chk]
@[simp] theorem isFr_fr {d : D} : isFr (.fr d) = true := rfl
@[simp] theorem pureB_no : pureB .no = true := rfl
@[simp] theorem pureB_int {z : Int} : pureB (.fr (.int z)) = true := rfl
@[simp] theorem pureB_str {z : Str} : pureB (.fr (.str z)) = true := rfl
@[simp] theorem pureB_bool {z : Bool} : pureB (.fr (.bool z)) = true := rfl
@[simp] theorem pureB_none : pureB (.fr .none) = true := rfl
theorem pureL_all {ds : List D} (h : ∀ d ∈ ds, pureD d = true) : pureL ds = true := by
  induction ds with
  | nil => rfl
  | cons d ds ih => rw [pureL, h d (by simp), ih fun e he => h e (by simp [he])]; rfl
section
variable {i j : Int} {a b : Bool} {x y : Str}
@[simp] theorem okEq_int : okEq (.int i) = true := rfl
@[simp] theorem okEq_bool : okEq (.bool a) = true := rfl
theorem okEq_str (h : PyData.strOk x = true) : okEq (.str x) = true := by
  unfold okEq SeqAt.shaped PyData.canLay0
  rw [h]; rfl
@[simp] theorem okEq_none : okEq .none = true := rfl
@[simp] theorem gAdd_int : gAdd (.int i) (.int j) = some (.fr (.int (i + j))) := rfl
@[simp] theorem gSub_int : gSub (.int i) (.int j) = some (.fr (.int (i - j))) := rfl
@[simp] theorem gAdd_bool : gAdd (.bool a) (.int j) = some (.fr (.int ((if a = true then 1 else 0) + j))) := rfl
@[simp] theorem gSub_bool : gSub (.bool a) (.int j) = some (.fr (.int ((if a = true then 1 else 0) - j))) := rfl
@[simp] theorem gSub_ib : gSub (.int i) (.bool a) = some (.fr (.int (i - if a = true then 1 else 0))) := rfl
@[simp] theorem gNeg_int : gNeg (.int i) = some (.fr (.int (-i))) := rfl
@[simp] theorem gLt_int : gLt (.int i) (.int j) = some (.fr (.bool (decide (i < j)))) := by unfold gLt; rw [PySem.W.dataLt_int]; rfl
@[simp] theorem gGt_int : gGt (.int i) (.int j) = some (.fr (.bool (decide (j < i)))) := by unfold gGt; rw [PySem.W.dataLt_int]; rfl
@[simp] theorem gLe_int : gLe (.int i) (.int j) = some (.fr (.bool (decide (i ≤ j)))) := by
  unfold gLe; rw [PySem.W.dataLt_int]
  show some (B.fr (PyData.bool (!decide (j < i)))) = _
  rw [show (!decide (j < i)) = decide (i ≤ j) by simp [← decide_not, Int.not_lt]]
@[simp] theorem gGe_int : gGe (.int i) (.int j) = some (.fr (.bool (decide (j ≤ i)))) := by
  unfold gGe; rw [PySem.W.dataLt_int]
  show some (B.fr (PyData.bool (!decide (i < j)))) = _
  rw [show (!decide (i < j)) = decide (j ≤ i) by simp [← decide_not, Int.not_lt]]
@[simp] theorem gEq_int : gEq (.int i) (.int j) = some (.fr (.bool (decide (i = j)))) := by
  show some (B.fr (PyData.bool (i == j))) = _
  simp [BEq.beq]
@[simp] theorem gNe_int : gNe (.int i) (.int j) = some (.fr (.bool (!decide (i = j)))) := by
  show some (B.fr (PyData.bool (!(i == j)))) = _
  simp [BEq.beq]
@[simp] theorem gEq_bool : gEq (.bool a) (.bool b) = some (.fr (.bool (a == b))) := rfl
@[simp] theorem gNe_bool : gNe (.bool a) (.bool b) = some (.fr (.bool (!(a == b)))) := rfl
theorem gLt_str (h1 : PyData.strOk x = true) (h2 : PyData.strOk y = true) : gLt (.str x) (.str y) = some (.fr (.bool (decide (x.cps.toList < y.cps.toList)))) := by
  unfold gLt
  rw [PySem.W.dataLt_str, if_pos ⟨by unfold okLt; rw [okEq_str h1]; rfl, okEq_str h2⟩]
theorem gLe_str (h1 : PyData.strOk x = true) (h2 : PyData.strOk y = true) : gLe (.str x) (.str y) = some (.fr (.bool (!decide (y.cps.toList < x.cps.toList)))) := by
  unfold gLe
  rw [PySem.W.dataLt_str, if_pos ⟨by unfold okLt; rw [okEq_str h1]; rfl, okEq_str h2⟩]
@[simp] theorem gIs_bool : gIs (.bool a) (.bool b) = some (.fr (.bool (decide (a = b)))) := rfl
theorem gMod_int (h : 0 < j) : gMod (.int i) (.int j) = some (.fr (.int (i % j))) := if_pos h
theorem gFdiv_int (h : 0 < j) (h2 : j.natAbs.log2 < 9000) : gFdiv (.int i) (.int j) = some (.fr (.int (i / j))) := if_pos ⟨h, h2⟩
theorem gMul_int (h : i.natAbs.log2 + j.natAbs.log2 < 1000000) : gMul (.int i) (.int j) = some (.fr (.int (i * j))) := if_pos h
end
@[simp] theorem owL_zero {ds : List D} {ρ : Env} : owL (.ow (.list ds) :: ρ) 0 = some ds := rfl
@[simp] theorem owL_succ {a0 : B} {ρ : Env} {i : Nat} : owL (a0 :: ρ) (i + 1) = owL ρ i := rfl
@[simp] theorem runDef_eq {body : SS} {np ns : Nat} {prot : List Nat} {bs : List B} : runDef body np ns prot bs = if bs.length = np then fin prot bs (body (bs ++ List.replicate (ns - np) .no)) else .bad := rfl
@[simp] theorem outs_nil {prot : List Nat} {i : Nat} {rs : List B} : outs prot i [] rs = some [] := by cases rs <;> rfl
@[simp] theorem outs_fr {prot : List Nat} {i : Nat} {d : D} {bs rs : List B} {r : B} : outs prot i (.fr d :: bs) (r :: rs) = if i ∈ prot then (outs prot (i + 1) bs rs).map (r :: ·) else (outs prot (i + 1) bs rs).map (.fr d :: ·) := rfl
@[simp] theorem outs_ow {prot : List Nat} {i : Nat} {d : D} {bs rs : List B} {r : B} : outs prot i (.ow d :: bs) (r :: rs) = if i ∈ prot then (outs prot (i + 1) bs rs).map (r :: ·) else none := rfl
@[simp] theorem fin_rt {prot : List Nat} {bs ρ : List B} {b : B} : fin prot bs (.rt b ρ) = (match outs prot 0 bs ρ with
  | some os => .ok b os
  | none => .bad) := rfl
@[simp] theorem fin_exc {prot : List Nat} {bs ρ : List B} {x : Xn} : fin prot bs (.exc x ρ) = (match outs prot 0 bs ρ with
  | some os => .exc x os
  | none => .bad) := rfl
@[simp] theorem fin_nx {prot : List Nat} {bs ρ : List B} : fin prot bs (.nx ρ) = (match outs prot 0 bs ρ with
  | some os => .ok (.fr .none) os
  | none => .bad) := rfl
/-! ### subscripts -/
theorem ixN_nat {n j : Nat} (h : j < n) : ixN n (j : Int) = some j := by
  unfold ixN
  rw [if_pos (Int.natCast_nonneg j), if_pos (Int.ofNat_lt.mpr h), Int.toNat_natCast]
theorem atI_nat {α : Type} {xs : List α} {j : Nat} {x : α} (h : xs[j]? = some x) : atI xs (j : Int) = some x := by
  unfold atI
  rw [ixN_nat (List.getElem?_eq_some_iff.mp h).1]
  exact h
theorem gIx_nat {ds : List D} {d : D} {j : Nat} (h : ds[j]? = some d) : gIx (.list ds) (.int (j : Int)) = some (.fr d) := by
  show (atI ds (j : Int)).map B.fr = _
  rw [atI_nat h]; rfl
theorem gIxT_nat {ds : List D} {d : D} {j : Nat} (h : ds[j]? = some d) : gIx (.tuple ds) (.int (j : Int)) = some (.fr d) := by
  show (atI ds (j : Int)).map B.fr = _
  rw [atI_nat h]; rfl
theorem setAt_nat {ds : List D} {x : D} {j : Nat} (h : j < ds.length) : setAt ds (.int (j : Int)) x = some (ds.set j x) := by
  show (ixN ds.length (j : Int)).map (fun j => ds.set j x) = _
  rw [ixN_nat h]; rfl
@[simp] theorem gIx_at0 {ds : List D} {d : D} : gIx (.list (d :: ds)) (.int 0) = some (.fr d) := gIx_nat (j := 0) rfl
@[simp] theorem gIx_at1 {ds : List D} {d e : D} : gIx (.list (d :: e :: ds)) (.int 1) = some (.fr e) := gIx_nat (j := 1) rfl
@[simp] theorem gIx_at2 {ds : List D} {d e f : D} : gIx (.list (d :: e :: f :: ds)) (.int 2) = some (.fr f) := gIx_nat (j := 2) rfl
@[simp] theorem gIx_at3 {ds : List D} {d e f x : D} : gIx (.list (d :: e :: f :: x :: ds)) (.int 3) = some (.fr x) := gIx_nat (j := 3) rfl
@[simp] theorem gIxT_at0 {ds : List D} {d : D} : gIx (.tuple (d :: ds)) (.int 0) = some (.fr d) := gIxT_nat (j := 0) rfl
@[simp] theorem gIxT_at1 {ds : List D} {d e : D} : gIx (.tuple (d :: e :: ds)) (.int 1) = some (.fr e) := gIxT_nat (j := 1) rfl
@[simp] theorem gIxT_at2 {ds : List D} {d e f : D} : gIx (.tuple (d :: e :: f :: ds)) (.int 2) = some (.fr f) := gIxT_nat (j := 2) rfl
@[simp] theorem gIxT_at3 {ds : List D} {d e f x : D} : gIx (.tuple (d :: e :: f :: x :: ds)) (.int 3) = some (.fr x) := gIxT_nat (j := 3) rfl
@[simp] theorem setAt_0 {ds : List D} {d x : D} : setAt (d :: ds) (.int 0) x = some (x :: ds) := setAt_nat (j := 0) (Nat.zero_lt_succ _)
@[simp] theorem setAt_2 {ds : List D} {d e f x : D} : setAt (d :: e :: f :: ds) (.int 2) x = some (d :: e :: x :: ds) := setAt_nat (j := 2) (by simp only [List.length_cons]; omega)
theorem atI_lt {α : Type} {xs : List α} {r : Int} (h0 : 0 ≤ r) (h1 : r < xs.length) : ∃ x, x ∈ xs ∧ atI xs r = some x := by
  have h2 : r.toNat < xs.length := by omega
  refine ⟨xs[r.toNat], List.getElem_mem h2, ?_⟩
  unfold atI ixN
  rw [if_pos h0, if_pos h1]
  exact List.getElem?_eq_getElem h2
@[simp] theorem wipeB_nil {ρ : Env} : wipeB [] ρ = ρ := rfl
@[simp] theorem wipeB_cons {v : Nat} {r : List Nat} {ρ : Env} : wipeB (v :: r) ρ = (wipeB r ρ).set v .no := rfl
@[simp] theorem keepE_nil {ρ ρ' : Env} : keepE [] ρ ρ' = ρ' := rfl
@[simp] theorem keepE_cons {v : Nat} {r : List Nat} {ρ ρ' : Env} : keepE (v :: r) ρ ρ' = (match ρ[v]? with
    | some b => (keepE r ρ ρ').set v b
    | none => keepE r ρ ρ') := rfl
@[simp] theorem pureB_owL {ds : List D} : pureB (.ow (.list ds)) = pureL ds := rfl
@[simp] theorem pureB_fr {d : D} : pureB (.fr d) = pureD d := rfl
@[simp] theorem pureD_int {z : Int} : pureD (.int z) = true := rfl
@[simp] theorem pureD_str {z : Str} : pureD (.str z) = true := rfl
@[simp] theorem pureD_bool {z : Bool} : pureD (.bool z) = true := rfl
@[simp] theorem pureL_nil : pureL [] = true := rfl
@[simp] theorem pureL_cons {d : D} {ds : List D} : pureL (d :: ds) = (pureD d && pureL ds) := by rw [pureL]
@[simp] theorem gSorted_strs {zs : List Str} (h : ∀ z ∈ zs, PyData.strOk z = true) (hl : zs.length ≤ sizeLine) : gSorted [.list (zs.map .str)] = some (.ow (.list ((zs.map PyData.str).mergeSort (PySem.W.dataLe false id)))) := by
  have e : zs.map PyData.str = zs.map fun z => PyData.str z := rfl
  unfold gSorted
  refine if_pos ⟨PySem.W.AllAlike.of fun _ _ => rfl, PySem.W.Sortable.others fun _ => ⟨(fun w => nomatch w), fun _ w => nomatch w⟩, fun d hd => ?_, by rw [List.length_map]; exact hl⟩
  obtain ⟨z, hz, rfl⟩ := List.mem_map.mp hd
  exact okEq_str (h z hz)
theorem pigeon {α : Type} [DecidableEq α] : ∀ (f l : List α), l.Nodup → f.length < l.length → ∃ x, x ∈ l ∧ x ∉ f
  | [], x :: l, _, _ => ⟨x, List.mem_cons_self, by simp⟩
  | [], [], _, h => by simp at h
  | y :: f, l, hn, h => by
    obtain ⟨x, h1, h2⟩ := pigeon f (l.erase y) (hn.erase y) (by
      have := List.length_erase (a := y) (l := l)
      simp only [List.length_cons] at h
      split at this <;> omega)
    have h3 := (hn.mem_erase_iff).mp h1
    exact ⟨x, h3.2, by simp [h3.1, h2]⟩
/-! ### loops -/
theorem forR_inv {g : SG} {b : SS} (I : Nat → Env → Prop) {ds : List D} {ρ : Env} (h0 : I 0 ρ)
    (step : ∀ i d ρ, ds[i]? = some d → I i ρ → ∃ ρ1, g d ρ = some ρ1 ∧ ∃ ρ2, (b ρ1 = .nx ρ2 ∨ b ρ1 = .ct ρ2) ∧ I (i + 1) ρ2) : ∃ ρ', forR g b ds ρ = .nx ρ' ∧ I ds.length ρ' := by
  induction ds generalizing I ρ with
  | nil => exact ⟨ρ, rfl, h0⟩
  | cons d ds ih =>
    obtain ⟨ρ1, h1, ρ2, h2, h3⟩ := step 0 d ρ rfl h0
    obtain ⟨ρ', h4, h5⟩ := ih (fun n => I (n + 1)) h3 fun i e ρ he hi => step (i + 1) e ρ (by simpa using he) hi
    refine ⟨ρ', ?_, h5⟩
    unfold forR
    rw [h1]
    rcases h2 with h2 | h2 <;> simp only [h2] <;> exact h4
/-- .. or the body gives something back on the way -/
theorem forR_out {g : SG} {b : SS} (I : Nat → Env → Prop) (R : B → Env → Prop) {ds : List D} {ρ : Env} (h0 : I 0 ρ)
    (step : ∀ i d ρ, ds[i]? = some d → I i ρ → ∃ ρ1, g d ρ = some ρ1 ∧ ((∃ ρ2, (b ρ1 = .nx ρ2 ∨ b ρ1 = .ct ρ2) ∧ I (i + 1) ρ2) ∨ ∃ v ρ2, b ρ1 = .rt v ρ2 ∧ R v ρ2)) :
    (∃ ρ', forR g b ds ρ = .nx ρ' ∧ I ds.length ρ') ∨ ∃ v ρ', forR g b ds ρ = .rt v ρ' ∧ R v ρ' := by
  induction ds generalizing I ρ with
  | nil => exact .inl ⟨ρ, rfl, h0⟩
  | cons d ds ih =>
    obtain ⟨ρ1, h1, h | h⟩ := step 0 d ρ rfl h0
    · obtain ⟨ρ2, h2, h3⟩ := h
      have e : forR g b (d :: ds) ρ = forR g b ds ρ2 := by
        rw [forR, h1]
        rcases h2 with h2 | h2 <;> simp only [h2]
      rw [e]
      exact ih (fun n => I (n + 1)) h3 fun i e ρ he hi => step (i + 1) e ρ (by simpa using he) hi
    · obtain ⟨v, ρ2, h2, h3⟩ := h
      exact .inr ⟨v, ρ2, by rw [forR, h1]; simp only [h2], h3⟩
theorem lcR_inv {vs : List Nat} {g : SG} {ct : STs} {fe : SE} (I : Nat → List D → Env → Prop) {ds acc : List D} {ρ : Env} (h0 : I 0 acc ρ) (hl : acc.length + ds.length ≤ sizeLine) (hI : ∀ i a ρ, I i a ρ → a.length ≤ acc.length + i)
    (step : ∀ i d a ρ, ds[i]? = some d → I i a ρ → ∃ ρ2, g d (wipeB vs ρ) = some ρ2 ∧ ((∃ ρ3, ct ρ2 = .ok false ρ3 ∧ I (i + 1) a (keepE vs ρ ρ3)) ∨ ∃ ρ3, ct ρ2 = .ok true ρ3 ∧ ∃ b y ρ4, fe ρ3 = .ok b ρ4 ∧ frz b = some y ∧ I (i + 1) (a ++ [y]) (keepE vs ρ ρ4))) :
    ∃ a' ρ', lcR vs g ct fe ds acc ρ = .ok (.ow (.list a')) ρ' ∧ I ds.length a' ρ' := by
  suffices H : ∀ (ds : List D) (n : Nat) (a : List D) (ρ : Env), n + ds.length + acc.length ≤ sizeLine → I n a ρ → (∀ i d a ρ, ds[i]? = some d → I (n + i) a ρ → ∃ ρ2, g d (wipeB vs ρ) = some ρ2 ∧ ((∃ ρ3, ct ρ2 = .ok false ρ3 ∧ I (n + i + 1) a (keepE vs ρ ρ3)) ∨ ∃ ρ3, ct ρ2 = .ok true ρ3 ∧ ∃ b y ρ4, fe ρ3 = .ok b ρ4 ∧ frz b = some y ∧ I (n + i + 1) (a ++ [y]) (keepE vs ρ ρ4))) →
      ∃ a' ρ', lcR vs g ct fe ds a ρ = .ok (.ow (.list a')) ρ' ∧ I (n + ds.length) a' ρ' by
    obtain ⟨a', ρ', h1, h2⟩ := H ds 0 acc ρ (by omega) h0 fun i d a ρ he hi => by
      have := step i d a ρ he (by simpa using hi)
      simpa using this
    exact ⟨a', ρ', h1, by simpa using h2⟩
  intro ds
  induction ds with
  | nil => exact fun n a ρ _ hi _ => ⟨a, ρ, rfl, hi⟩
  | cons d ds ih =>
    intro n a ρ hn hi st
    obtain ⟨ρ2, h1, h⟩ := st 0 d a ρ rfl hi
    have la := hI n a ρ hi
    simp only [List.length_cons] at hn
    rcases h with ⟨ρ3, h2, h3⟩ | ⟨ρ3, h2, b, y, ρ4, h3, h4, h5⟩
    · obtain ⟨a', ρ', k1, k2⟩ := ih (n + 1) a _ (by omega) h3 fun i e a ρ he hi => by
        have := st (i + 1) e a ρ (by simpa using he) (by rw [show n + (i + 1) = n + 1 + i by omega]; exact hi)
        rw [show n + (i + 1) = n + 1 + i by omega] at this
        exact this
      refine ⟨a', ρ', ?_, by rw [List.length_cons, show n + (ds.length + 1) = n + 1 + ds.length by omega]; exact k2⟩
      rw [lcR, h1]
      simp only [h2]
      exact k1
    · obtain ⟨a', ρ', k1, k2⟩ := ih (n + 1) _ _ (by omega) h5 fun i e a ρ he hi => by
        have := st (i + 1) e a ρ (by simpa using he) (by rw [show n + (i + 1) = n + 1 + i by omega]; exact hi)
        rw [show n + (i + 1) = n + 1 + i by omega] at this
        exact this
      refine ⟨a', ρ', ?_, by rw [List.length_cons, show n + (ds.length + 1) = n + 1 + ds.length by omega]; exact k2⟩
      rw [lcR, h1]
      simp only [h2, h3, h4]
      rw [if_pos (by omega)]
      exact k1
/-- a comprehension that changes nothing -/
theorem lcR_pure {vs : List Nat} {g : SG} {ct : STs} {fe : SE} (q : D → Env) (p : D → Bool) (v : D → D) : ∀ {ds acc : List D} {ρ : Env}, (∀ d ∈ ds, g d (wipeB vs ρ) = some (q d) ∧ ct (q d) = .ok (p d) (q d) ∧ (p d = true → ∃ b, fe (q d) = .ok b (q d) ∧ frz b = some (v d)) ∧ keepE vs ρ (q d) = ρ) →
    acc.length + ds.length ≤ sizeLine → lcR vs g ct fe ds acc ρ = .ok (.ow (.list (acc ++ (ds.filter p).map v))) ρ
  | [], acc, ρ, _, _ => by rw [lcR]; simp
  | d :: ds, acc, ρ, h, hl => by
    obtain ⟨h1, h2, h3, h4⟩ := h d (by simp)
    simp only [List.length_cons] at hl
    rw [lcR, h1]
    cases hp : p d with
    | false =>
      rw [hp] at h2
      simp only [h2]
      rw [h4, lcR_pure q p v (fun e he => h e (by simp [he])) (by omega), List.filter_cons, hp]
      rfl
    | true =>
      rw [hp] at h2
      obtain ⟨b, k1, k2⟩ := h3 hp
      simp only [h2, k1, k2]
      rw [if_pos (by omega), h4, lcR_pure q p v (fun e he => h e (by simp [he])) (by simp only [List.length_append, List.length_cons, List.length_nil]; omega), List.filter_cons, hp]
      simp
end FK

set_option Elab.async false
set_option linter.all false
set_option maxRecDepth 100000
set_option maxHeartbeats 2000000
/-! FK 35: own exceptions: made, raised. -/
namespace FK
open PySem PySem.Spec PyProof.Rows L2
/-- the base class: its __init__ is the built-in one -/
structure BaseX (K : Fg) (C0 : Addr) : Prop where
  ga : PySem.W.specialIn K (.ref C0) "__getattribute__" = some (some (.builtin "type.__getattribute__"))
  ty : PySem.W.typeIn K (.ref C0) = some (.type "type")
  rd : PySem.W.readsIn K C0 (.type "type") = true
  ini : PySem.W.findCls K (.ref C0) (.type "type") "__init__" = some (.val (.builtin "ValueError.__init__"))
/-- a class of exceptions with one field, its own __init__ the def at fI -/
structure OwnX (K : Fg) (C fI : Addr) (f : Str) : Prop where
  oex : OexC K C
  init : PySem.W.findIn K (.ref C) "__init__" = some (some (.ref fI))
  fn : PySem.W.typeIn K (.ref fI) = some (.type "function")
  no : PySem.W.findIn K (.ref C) f = some none
section
variable {X : Cx} {e : Expr} {es : List Expr} {ta : TA} {p1 p2 pos : Pos}
/-- Base.__init__(self, ..) -/
theorem pe_xinit {x0 : Str} {C0 : Addr} {pl : Sem Bool} (hg : Gl X x0) (hm : X.mg x0 = some (.ref C0)) (hdb : (x0 == ("__debug__" : Str)) = false) (B : BaseX X.K C0) (ha : PA X (e :: es) ta)
    (hc : eval (.Call (.Attribute (.Name x0 p1) "__init__" p2) (e :: es) [] pos) X.env = (do
      let ov ← eval (.Name x0 p1) X.env
      standAt p2.atName
      let (f, first) ← holding [ov] (getMethod ov "__init__" pl)
      callWith pos f first (backTo pos (starEach (e :: es) X.env)) (backToKw pos (keywordEach [] X.env))))
    (he : starEach (e :: es) X.env = (false, eval e X.env) :: starEach es X.env) (hpl : (backTo pos (starEach es X.env)).any (·.1) = false) :
    PE X (.Call (.Attribute (.Name x0 p1) "__init__" p2) (e :: es) [] pos) (tVeI X.K ta) := by
  refine ⟨fun pins s σ H Q I h => ?_⟩
  refine PySem.W.methodCall_KW (ld_glob I hg hm ?_ hdb) hc
  obtain ⟨m, fr⟩ := I.fr
  refine PySem.W.method_of_cls fr I.ok.mod.kin B.ga (PySem.W.cls_val fr I.ok.mod.kin B.ty B.rd B.ini (by decide +kernel) ?_)
  show wpAny _ _ (callWith pos (Value.builtin "ValueError.__init__") [] (backTo pos (starEach (e :: es) X.env)) []) _ _ _
  refine PyProof.Rows.callWith_method1 (thn (ha.run pos pins _ σ H _ (I.tok _) h) fun us s1 ⟨vs, H1, J, r1, a, C, ws, ev, hl, T, ea, q⟩ => ?_) he hpl
  subst ev
  cases r1 with
  | @cons _ u0 _ ur ra rest =>
    obtain rfl : u0 = Value.ref a := ra
    exact oinit_ok T J ea (by rw [← Paired.length rest, sizeLine_eq]; omega) fun s' J' => ⟨.non, H1, J', rfl, q⟩
end
/-- what such an __init__ does -/
def spInit (f : Str) (C : Addr) : Sp := fun vs H Q E => ∃ a v, vs = [.ref a, v] ∧ H a = some (exo a C none) ∧ ∀ dx, H dx = none → dx ≠ a → Q .non (upd (upd H dx (exd dx [(f, v)])) a (exo a C (some dx)))
theorem init_ok {P : Program} {w : World} {T : Tx} {mg : Str → Option Value} {base : Heap} {k : Nat} {C C0 fI : Addr} {fd : FuncData} {s1 s2 x0 f qual m : Str} {params : Arguments} {scope : Scope} {j : Nat} {p1 p2 p3 p4 p5 p6 p7 p8 p9 p10 : Pos}
    (Fd : FunD T.K "__init__" qual params [.Expr (.Call (.Attribute (.Name x0 p1) "__init__" p2) [.Name s1 p3, .Constant (.str m) j p4] [] p5) p6, .Assign [.Attribute (.Name s1 p7) f p8] (.Name s2 p9) p10] scope [] [] fI fd) (S : FnScope [s1, s2] [s1, s2] scope)
    (hv : seesB [s1, s2] scope [0, 1] = true) (B : BaseX T.K C0) (O : OwnX T.K C fI f) (hm : mg x0 = some (.ref C0)) (hdb : (x0 == ("__debug__" : Str)) = false)
    (hX : ∀ (cdv : Value) (A : Around) (outer : List PySem.Env) (s : Shared) (H : Hp) (E : XK), let X := cxOf (L2.CX P w) P w T.K mg base [s1, s2] qual scope fI cdv A outer s H E
      Gl X x0 ∧ (∃ pl : Sem Bool, eval (.Call (.Attribute (.Name x0 p1) "__init__" p2) [.Name s1 p3, .Constant (.str m) j p4] [] p5) X.env = (do
        let ov ← eval (.Name x0 p1) X.env
        standAt p2.atName
        let (f, first) ← holding [ov] (getMethod ov "__init__" pl)
        callWith p5 f first (backTo p5 (starEach [.Name s1 p3, .Constant (.str m) j p4] X.env)) (backToKw p5 (keywordEach [] X.env)))) ∧
      starEach [.Name s1 p3, .Constant (.str m) j p4] X.env = (false, eval (.Name s1 p3) X.env) :: starEach [.Constant (.str m) j p4] X.env ∧ starEach [.Constant (.str m) j p4] X.env = (false, eval (.Constant (.str m) j p4) X.env) :: starEach [] X.env ∧
      (backTo p5 (starEach [.Constant (.str m) j p4] X.env)).any (·.1) = false ∧ swapsWith (.Call (.Attribute (.Name x0 p1) "__init__" p2) [.Name s1 p3, .Constant (.str m) j p4] [] p5) none p6.line X.env = pure false ∧
      swapsWith (.Name s2 p9) (some (.Attribute (.Name s1 p7) f p8)) p10.line X.env = pure false) :
    FnOk P w T.K mg base (L2.CX P w) (k + 1) fI fd [s1, s2] (spInit f C) := by
  refine FunD.ok Fd S (fun vs H Q E h => by obtain ⟨a, v, e, _⟩ := h; rw [e]; rfl) fun cdv A outer s H vs Q E hr ⟨a, v, ev, ha, hq⟩ => ?_
  obtain ⟨g0, ⟨pl, g1⟩, g2, g3, g4, g5, g6⟩ := hX cdv A outer s H E
  have V := sees_of hv
  have v0 := V 0 s1 rfl rfl
  have v1 := V 1 s2 rfl rfl
  refine ⟨_, pss_cons (ps_expr (pe_xinit (pl := pl) g0 hm hdb B (pa_cons (pe_var (i := 0) rfl v0.1 v0.2.1 v0.2.2) (pa_cons pe_str pa_nil g3) g2) g1 g2 g4) g5)
    (pss_cons (ps_ost (pe_var (i := 0) rfl v0.1 v0.2.1 v0.2.2) (pe_var (i := 1) rfl v1.1 v1.2.1 v1.2.2) g6) pss_nil), ?_⟩
  subst ev
  refine ⟨.ref a, rfl, a, C, [.str m], rfl, by simp, O.oex, ha, ?_⟩
  exact ⟨v, rfl, .ref a, rfl, a, C, rfl, O.oex, O.no, .inl ⟨ha, fun dx h1 h2 => hq dx h1 h2⟩⟩
/-- how an exception of the program lies: cls' the classes' places, fs their fields -/
def xrOf (K : Fg) (cl : Nat → Addr) (fl : Nat → Str) : Xn → Hp → Value → Option Addr → Hp → Prop := fun x Hz cls d _ => ∃ dx v e, cls = .ref (cl x.cls) ∧ d = some dx ∧ x.fld = some e ∧ Hz dx = some (.xd [(fl x.cls, v)]) ∧ Rep K Hz v e
def sRaise (c : Nat) (f : SE) : SS := fun ρ => (f ρ).frS fun d ρ1 => .exc ⟨c, some d⟩ ρ1
@[simp] theorem sRaise_eq {c : Nat} {f : SE} {a0 : B} {ρ : Env} : sRaise c f (a0 :: ρ) = (f (a0 :: ρ)).frS fun d ρ1 => .exc ⟨c, some d⟩ ρ1 := rfl
section
variable {X : Cx} {T : Tx} {W : WX} {k : Nat} {l m : List Nat} {P : List Nat} {e : Expr} {f : SE} {p pos pos' : Pos}
theorem raise_ (C : Cxt X T W (k + 1) l m) {x fd_ : Str} {c : Nat} {Ca fI : Addr} {fd : FuncData} {ps : List Str} (hxr : ∀ v e dx Hz H, Hz dx = some (.xd [(fd_, v)]) → Rep T.K Hz v e → T.xr ⟨c, some e⟩ Hz (.ref Ca) (some dx) H) (O : OwnX X.K Ca fI fd_)
    (F : FnOk X.prog X.w X.K X.mg X.base (L2.CX X.prog X.w) k fI fd ps (spInit fd_ Ca)) (hb : Binds X.K fd ps []) (hg : Gl X x) (hm : X.mg x = some (.ref Ca)) (hdb : (x == ("__debug__" : Str)) = false) (he : PE X e (tE T W f))
    (hs : starEach [e] X.env = (false, eval e X.env) :: starEach [] X.env) :
    PS X (.Raise (some (.Call (.Name x p) [e] [] pos')) none pos) (tS T W P (sRaise c f)) := by
  refine PS.mono (ps_raise C.calm C.tk (pmk_oex (dvs := []) (ds := []) O.oex O.init O.fn F C.room hb .nil (fun pins σ H s u s' I h => ?_) hg hm (pa_cons he pa_nil hs) hdb hs rfl)) fun D σ H ⟨Hz, ρ, F', z, h⟩ => ?_
  · exact C.tk _ _ (XE.of_call I (fun _ _ _ (q : False) => q.elim) h)
  · refine ⟨Hz, ρ, F', z, Aft.imp (AftS.frS h) fun v H1 ⟨Hz1, F1, d, ρ1, z1, s1, r1, q1⟩ => ?_⟩
    refine ⟨by simp, fun a ha => ⟨a, v, rfl, upd_same, fun dx h1 h2 => ⟨rfl, dx, [(fd_, v)], upd_same, ?_, ?_, ?_⟩⟩⟩
    · rw [upd_ne h2, upd_same]
    · rw [upd_ne h2] at h1; exact h1
    · have hd : H1 dx = none := by rw [upd_ne h2] at h1; exact h1
      have e : upd (L2.del (upd (upd (upd H1 a (exo a Ca none)) dx (exd dx [(fd_, v)])) a (exo a Ca (some dx))) a) dx (.xd [(fd_, v)]) = upd H1 dx (.xd [(fd_, v)]) := by
        funext b
        by_cases hb : b = dx
        · subst hb; rw [upd_same, upd_same]
        · rw [upd_ne hb, upd_ne hb]
          by_cases hb2 : b = a
          · subst hb2; rw [del_same, ha]
          · rw [del_ne hb2, upd_ne hb2, upd_ne hb, upd_ne hb2]
      rw [e]
      exact q1 _ _ σ _ _ _ (z1.push hd) (.push z1.sub hd) (.refl _ _) (hxr v d dx _ _ upd_same (r1.mono (same_push (z1.sub.free hd))))
end
end FK

set_option Elab.async false
set_option linter.all false
set_option maxRecDepth 100000
set_option maxHeartbeats 2000000
/-! FK 36: try .. except; isinstance of a caught exception, its field. -/
namespace FK
open PySem PySem.Spec PyProof.Rows L2
/-- the end of an except clause: its name goes -/
def endOf (i : Nat) : RS → RS
  | .nx ρ => .nx (ρ.set i .no)
  | .bk ρ => .bk (ρ.set i .no)
  | .ct ρ => .ct (ρ.set i .no)
  | .rt b ρ => .rt b (ρ.set i .no)
  | _ => .bad
/-- a caught exception: its place, its dict's, its field -/
abbrev bX (a dx : Addr) (f : Str) (d : D) : B := .ob a [.ob dx [], .fr d, .fr (.str f)]
open Classical in
noncomputable def sTry (i : Nat) (fl : Nat → Str) (fb : SS) (fs : Nat → Addr → Addr → SS) : SS := fun ρ => match fb ρ with
  | .exc x ρ' => match x.fld with
    | some d => if h : i < ρ'.length ∧ ∃ r, ∀ a dx, endOf i (fs x.cls a dx (ρ'.set i (bX a dx (fl x.cls) d))) = r then h.2.choose else .bad
    | none => .bad
  | r => r
theorem sTry_exc {i : Nat} {fl : Nat → Str} {fb : SS} {fs : Nat → Addr → Addr → SS} {ρ ρ' : Env} {c : Nat} {d : D} {r : RS} (h : fb ρ = .exc ⟨c, some d⟩ ρ') (hl : i < ρ'.length) (hr : ∀ a dx, endOf i (fs c a dx (ρ'.set i (bX a dx (fl c) d))) = r) : sTry i fl fb fs ρ = r := by
  have e : ∃ r, ∀ a dx, endOf i (fs c a dx (ρ'.set i (bX a dx (fl c) d))) = r := ⟨r, hr⟩
  unfold sTry
  rw [h]
  simp only
  rw [dif_pos ⟨hl, e⟩]
  rw [← e.choose_spec 0 0]
  exact hr 0 0
theorem sTry_nx {i : Nat} {fl : Nat → Str} {fb : SS} {fs : Nat → Addr → Addr → SS} {ρ ρ' : Env} (h : fb ρ = .nx ρ') : sTry i fl fb fs ρ = .nx ρ' := by
  unfold sTry; rw [h]
theorem sTry_rt {i : Nat} {fl : Nat → Str} {fb : SS} {fs : Nat → Addr → Addr → SS} {ρ ρ' : Env} {b : B} (h : fb ρ = .rt b ρ') : sTry i fl fb fs ρ = .rt b ρ' := by
  unfold sTry; rw [h]
theorem Zone.gone {K : Fg} {Hz H : Hp} {σ : L2.St} {ρ : Env} {F : Nat → List Addr} {i : Nat} (z : Zone K Hz H σ ρ F) : Zone K Hz H (σ.set i none) (ρ.set i .no) (putF F i []) := by
  have z1 := z.clear (i := i)
  refine ⟨z1.sub, z1.len.trans (List.length_set).symm, fun j b h hb => ?_, z1.out, z1.apart, z1.dead⟩
  by_cases e : j = i
  · subst e
    by_cases hi : j < ρ.length
    · rw [List.getElem?_set_self hi] at h; cases h; exact absurd rfl hb
    · rw [List.getElem?_eq_none (by simpa using hi)] at h; cases h
  · rw [set_ge e]; exact z1.slot j b h hb
theorem own_gone {F : Nat → List Addr} {i : Nat} {a : Addr} (h : Own (putF F i []) a) : Own F a := by
  rcases own_put h with w | ⟨j, _, w⟩
  · cases w
  · exact ⟨j, w⟩
theorem prot_set {P : List Nat} {i : Nat} {σ σ' : L2.St} {v : Option V} (hP : P.contains i = false) (p : Prot P σ σ') : Prot P σ (σ'.set i v) := p.trans ⟨List.length_set, fun j hj => set_ge fun e => by
  subst e; rw [List.contains_iff_mem.mpr hj] at hP; cases hP⟩
section
variable {X : Cx} {T : Tx} {W : WX} {k : Nat} {l m : List Nat} {P : List Nat}
/-- the suite's end, behind which its name goes -/
theorem endOf_ok {i : Nat} {Hz H Hz0 H0 : Hp} {F F0 : Nat → List Addr} {σ σ0 : L2.St} {r : RS} {D : Ends} (hP : P.contains i = false) (s0 : Step Hz0 H0 F0 Hz H F) (p0 : Prot P σ0 σ) (h : AftS T W P Hz0 H0 F0 σ0 (endOf i r) D) :
    AftS T W0 P Hz H F σ r { nx := fun σ' H' => D.nx (σ'.set i none) H', rt := D.rt, bk := fun σ' H' => D.bk (σ'.set i none) H', ct := fun σ' H' => D.ct (σ'.set i none) H' } := by
  have st : ∀ {Hz' H' F'}, Step Hz H F Hz' H' F' → Step Hz0 H0 F0 Hz' H' (putF F' i []) := fun s => (s0.trans s).storeAt fun a ha => nomatch ha
  cases r with
  | bad => exact h
  | exc x ρ' => exact h.elim
  | nx ρ' => exact fun σ' Hz' H' F' z s p => h _ _ _ _ z.gone (st s) (prot_set hP (p0.trans p))
  | bk ρ' => exact fun σ' Hz' H' F' z s p => h _ _ _ _ z.gone (st s) (prot_set hP (p0.trans p))
  | ct ρ' => exact fun σ' Hz' H' F' z s p => h _ _ _ _ z.gone (st s) (prot_set hP (p0.trans p))
  | rt b ρ' =>
    intro v σ' Hz' H' F' z s p ⟨fp, m, q⟩
    refine h v _ _ _ _ z.gone (st s) (prot_set hP (p0.trans p)) ⟨fp, m, fun a ha => ?_⟩
    obtain ⟨q1, q2, q3⟩ := q a ha
    refine ⟨q1, fun w => q2 (own_gone w), ?_⟩
    rcases q3 with w | w
    · left
      cases e : H0 a with
      | none => rfl
      | some o => exact absurd w (s0.dom a (by rw [e]; exact fun z => nomatch z))
    · exact s0.no a w
theorem try_ (C : Cxt X T W k l m) {i : Nat} {cl : Nat → Addr} {fl : Nat → Str} {fb : SS} {fs : Nat → Addr → Addr → SS} {x n : Str} {C0 : Addr} {body suite : List Stmt} {b₀ : Stmt} {np pos pos' : Pos}
    (hs : X.stack = X.env :: X.outer) (hf : X.env.frame = some X.env.locals) (hP : P.contains i = false) (hi : X.N[i]? = some n) (hln : X.env.kindOf n = some .local) (hg : Gl X x) (hdb : (x == ("__debug__" : Str)) = false) (hm : X.mg x = some (.ref C0))
    (hx : ∀ c, PySem.W.exmOne X.K (.ref (cl c)) (.ref C0) = some true) (hxr : T.xr = xrOf T.K cl fl)
    (hb : ∀ (W : WX) (pn : List (Addr × Obj)) (xe : Value → Shared → Prop), Cxt (X.tr pn xe) T W k l m → PassesOwn (model X.prog X.w) X.A X.env xe → PSs (X.tr pn xe) body (tS T W P fb))
    (hsu : ∀ (a : Addr) (oe : Obj) (dx : Addr) (pn : List (Addr × Obj)) (c : Nat), Zc (.ref (cl c)) (some dx) oe → (∃ vs, oe.data = .fields vs) → Cxb false (X.suite a ((a, oe) :: pn)) T W0 k l m → PSs (X.suite a ((a, oe) :: pn)) (b₀ :: suite) (tS T W0 P (fs c a dx))) :
    PS X (.Try body [.ExceptHandler (some (.Name x np)) (some n) (b₀ :: suite) pos'] [] [] pos) (tS T W P (sTry i fl fb fs)) := by
  refine PS.mono (ps_try_as (i := i) (c := .ref C0) (Wout := W) (tb := fun W => tS T W P fb) (ts := fun a cls d D σ H => ∃ c dx, cls = .ref (cl c) ∧ d = some dx ∧ tS T W0 P (fs c a dx) D σ H) hs hf C.nd hi hln ⟨hg, hdb, .inl hm⟩ C.tk
    (fun W pn xe tk po => hb W pn xe ⟨C.hK, C.calm', C.nd, C.vis, C.loc, tk, C.room', C.un⟩ po) (fun a oe cls d pn hz hf => ⟨fun pins s σ H D I ⟨c, dx, e1, e2, h⟩ => ?_⟩)) fun D σ H ⟨Hz, ρ, F, z, h⟩ => ?_
  · subst e1 e2
    exact (hsu a oe dx pn c hz hf ⟨C.hK, fun h => Bool.noConfusion h, C.nd, C.vis, C.loc, fun u s' ⟨_, _, _, _, _, _, _, _, _, _, _, _, _, _, _, _, w⟩ => w.elim, fun h => Bool.noConfusion h, C.un⟩).run pins s σ H D I h
  · refine ⟨Hz, ρ, F, z, ?_⟩
    unfold sTry at h
    cases e : fb ρ with
    | bad => rw [e] at h; exact h
    | nx _ => rw [e] at h; exact h
    | bk _ => rw [e] at h; exact h
    | ct _ => rw [e] at h; exact h
    | rt _ _ => rw [e] at h; exact h
    | exc x ρ' =>
      rw [e] at h
      obtain ⟨c, fd⟩ := x
      cases fd with
      | none => exact h.elim
      | some d =>
        simp only at h
        split at h
        · rename_i hh
          have hl := hh.1
          have hr := hh.2.choose_spec
          intro cls dd σ' Hz' H' F' z' s' p' xr
          rw [hxr] at xr
          obtain ⟨dx, v, e', rfl, rfl, e2, e3, e4⟩ := xr
          cases e2
          refine ⟨true, hx c, fun _ a ha => ⟨c, dx, rfl, rfl, Hz', ρ'.set i (bX a dx (fl c) d), putF F' i [], z'.store hl ⟨rfl, rfl, fun dx' d' f' q => ?_⟩ (fun a ha => nomatch ha), ?_⟩, fun w => nomatch w⟩
          · cases q; exact ⟨v, e3, e4⟩
          · refine endOf_ok (W := W) (F0 := F) (σ0 := σ) hP (s'.storeAt fun a ha => nomatch ha) (prot_set hP p') ?_
            rw [hr a dx]
            exact h
        · exact h.elim
/-- the class of a caught exception: what is asked of it -/
def sIsE (i : Nat) (a dx : Addr) (b : Bool) : SE := fun ρ => match ρ[i]? with
  | some (.ob a' [.ob dx' [], .fr _, .fr (.str _)]) => if a' = a ∧ dx' = dx then .ok (.fr (.bool b)) ρ else .bad
  | _ => .bad
@[simp] theorem sIsE_eq {i : Nat} {a dx : Addr} {b : Bool} {a0 : B} {ρ : Env} : sIsE i a dx b (a0 :: ρ) = (match (a0 :: ρ)[i]? with
  | some (.ob a' [.ob dx' [], .fr _, .fr (.str _)]) => if a' = a ∧ dx' = dx then .ok (.fr (.bool b)) (a0 :: ρ) else .bad
  | _ => .bad) := rfl
/-- its field -/
def sAt (i : Nat) (a dx : Addr) (f : Str) : SE := fun ρ => match ρ[i]? with
  | some (.ob a' [.ob dx' [], .fr d, .fr (.str f')]) => if a' = a ∧ dx' = dx ∧ f' = f then .ok (.fr d) ρ else .bad
  | _ => .bad
@[simp] theorem sAt_eq {i : Nat} {a dx : Addr} {f : Str} {a0 : B} {ρ : Env} : sAt i a dx f (a0 :: ρ) = (match (a0 :: ρ)[i]? with
  | some (.ob a' [.ob dx' [], .fr d, .fr (.str f')]) => if a' = a ∧ dx' = dx ∧ f' = f then .ok (.fr d) (a0 :: ρ) else .bad
  | _ => .bad) := rfl
theorem held {K : Fg} {Hz H : Hp} {σ : L2.St} {ρ : Env} {F : Nat → List Addr} {i : Nat} {a dx : Addr} {d : D} {f : Str} (z : Zone K Hz H σ ρ F) (h : ρ[i]? = some (bX a dx f d)) : σ[i]? = some (some (.ref a)) ∧ ∃ w, H dx = some (.xd [(f, w)]) ∧ Rep K Hz w d := by
  obtain ⟨v, h1, h2, _, h3⟩ := z.slot i _ h (fun w => nomatch w)
  obtain ⟨w, h4, h5⟩ := h3 dx d f rfl
  exact ⟨by rw [h1, h2], w, z.sub _ _ h4, h5⟩
/-- isinstance(e, c), e the exception that the suite holds -/
def rIsE2 (K : Fg) (D a dx : Addr) : List V → Hp → VK → Prop := fun xs H Q => ∃ (c : V) (cv : Value) (b : Bool) (fs : List (Str × V)), xs = [.ref a, c] ∧ H dx = some (.xd fs) ∧ (∀ u, RelV c u → u = cv) ∧ PySem.W.kitOne K (.ref D) cv = some b ∧ Q (.bl b) H
theorem call_isE2 {a D dx : Addr} {oe : Obj} {pn : List (Addr × Obj)} (C : ExcC X.K D) (hz : Zc (.ref D) (some dx) oe) (hf : ∃ vs, oe.data = .fields vs) : CallR (X.suite a ((a, oe) :: pn)) (.builtin "isinstance") (rIsE2 X.K D a dx) := by
  intro pins s σ H xs us Q I r ⟨c, cv, b, fs, e1, hd, hcv, e, q⟩
  subst e1
  obtain ⟨u1, u2, rfl, r1, r2⟩ := vals2 r
  cases (show u1 = Value.ref a from r1)
  obtain rfl := hcv _ r2
  obtain ⟨hget, _⟩ := I.pin (a, oe) (List.mem_append.mpr (.inl List.mem_cons_self))
  obtain ⟨vs, hv⟩ := hf
  have hx : ObjOk X.prog X.w H s.heap dx (.xd fs) := I.hok dx _ hd
  obtain ⟨mA, hns, hr⟩ := hx
  obtain ⟨od, ho, hl⟩ := lookIn_ns hns
  have J : PySem.W.InstAt s.heap a oe D (some od) := ⟨hget, hz.1, by unfold PySem.W.notCls; rw [hv] <;> rfl, by rw [hz.2]; exact ho⟩
  have hcl : (PySem.W.clsIn X.K D).isSome = true := by
    have := C.hd
    unfold PySem.W.hasDictIn at this
    cases hh : PySem.W.clsIn X.K D with
    | none => rw [hh] at this; cases this
    | some cd => rfl
  exact PySem.W.kia_one (PySem.W.kitx_exc hcl C.hg C.hk C.hs C.ha C.hn C.ht C.hm) I.kIn J e (fun z => nomatch z) fun tk => ⟨.bl b, H, I.kept (t' := tk) fun _ _ z => z, rfl, q⟩
variable {a dx D : Addr} {oe : Obj} {pn : List (Addr × Obj)} {n y : Str} {i : Nat} {p p1 p2 pos : Pos} {c : V} {cv : Value} {b : Bool}
theorem e_isE (C : Cxb false (X.suite a ((a, oe) :: pn)) T W k l m) (hz : Zc (.ref D) (some dx) oe) (hf : ∃ vs, oe.data = .fields vs) (E : ExcC X.K D) (hk : PySem.W.kitOne X.K (.ref D) cv = some b) (hN : X.N[i]? = some n) (hl : l.contains i = true)
    (ht : PE (X.suite a ((a, oe) :: pn)) (.Name y p2) (tC c)) (hcv : ∀ u, RelV c u → u = cv) (hg : Gl X "isinstance") (hm : X.mg "isinstance" = none)
    (hs : starEach [.Name n p1, .Name y p2] X.env = (false, eval (.Name n p1) X.env) :: starEach [.Name y p2] X.env) (hs2 : starEach [.Name y p2] X.env = (false, eval (.Name y p2) X.env) :: starEach [] X.env) (hpl : (backTo pos (starEach [.Name y p2] X.env)).any (·.1) = false) :
    PE (X.suite a ((a, oe) :: pn)) (.Call (.Name "isinstance" p) [.Name n p1, .Name y p2] [] pos) (tE T W (sIsE i a dx b)) := by
  have v := C.vis i n hl hN
  refine PE.mono (pe_callB (X := X.suite a ((a, oe) :: pn)) (call_isE2 E hz hf) hg hm boot_isinstance (pa_cons (pe_var (i := i) hN v.1 v.2.1 v.2.2) (pa_cons ht pa_nil hs2) hs) (by decide) (by decide) hs hpl) fun σ H Q ⟨Hz, ρ, F, z, h⟩ => ?_
  unfold sIsE at h
  split at h
  · rename_i a' dx' d f e
    split at h
    · rename_i ee
      obtain ⟨rfl, rfl⟩ := ee
      obtain ⟨h1, w, h2, h3⟩ := held z e
      exact ⟨_, h1, c, cv, b, _, rfl, h2, hcv, hk, h.fin z (.bl b)⟩
    · exact h.elim
  · exact h.elim
theorem e_atX {f : Str} (C : Cxb false (X.suite a ((a, oe) :: pn)) T W k l m) (hz : Zc (.ref D) (some dx) oe) (hf : ∃ vs, oe.data = .fields vs) (E : ExcC X.K D) (hno : PySem.W.findIn X.K (.ref D) f = some none) (hN : X.N[i]? = some n) (hl : l.contains i = true)
    (hb : attributeBase (.Name n p1) f X.env (eval (.Name n p1) X.env) = eval (.Name n p1) X.env) :
    PE (X.suite a ((a, oe) :: pn)) (.Attribute (.Name n p1) f pos) (tE T W (sAt i a dx f)) := by
  have v := C.vis i n hl hN
  refine PE.mono (pe_xf ⟨E.hg, E.hk, E.hs, E.hd⟩ hno hz hf (pe_var (X := X.suite a ((a, oe) :: pn)) (i := i) hN v.1 v.2.1 v.2.2) hb) fun σ H Q ⟨Hz, ρ, F, z, h⟩ => ?_
  unfold sAt at h
  split at h
  · rename_i a' dx' d f' e
    split at h
    · rename_i ee
      obtain ⟨rfl, rfl, rfl⟩ := ee
      obtain ⟨h1, w, h2, h3⟩ := held z e
      exact ⟨_, h1, rfl, rfl, dx', _, w, rfl, h2, by simp, h.fin z h3⟩
    · exact h.elim
  · exact h.elim
end
end FK

set_option Elab.async false
set_option linter.all false
set_option maxRecDepth 100000
set_option maxHeartbeats 2000000
/-! FK 37: the head's facts about own exceptions. -/
namespace FK
open PySem PySem.Spec PyProof.Rows L2 He
def oexC0 (K : Fg) (C : Addr) : Bool := match K.lookup C with
  | some ⟨.type t, _, .cls cd, sl⟩ => decide (t = "type") && (match cd.mro, sl.toList with
    | .ref C' :: bm, [_, _, _, _, some (.builtin n), _] => decide (C' = C) && (decide (n = "ValueError.__new__") && (!cd.hasDel && (cd.hasDict && HandSPX.refsVE bm)))
    | _, _ => false)
  | _ => false
theorem oexC0_ok {K : Fg} {C : Addr} (h : oexC0 K C = true) : ∃ nm q N bs bm sn sub ab col dd k0 k1 k2 k3 k5, K.lookup C = some (excClassObj nm q C N bs bm true sn sub ab col dd k0 k1 k2 k3 k5 "ValueError.__new__") ∧ HandSPX.refsVE bm = true := by
  unfold oexC0 at h
  split at h
  · rename_i t dd cd sl ho
    obtain ⟨g1, g⟩ := ba h
    have e1 := of_decide_eq_true g1
    split at g
    · rename_i C' bm k0 k1 k2 k3 n k5 hm hs
      obtain ⟨g2, ga⟩ := ba g
      obtain ⟨g3, gb⟩ := ba ga
      obtain ⟨g4, gc⟩ := ba gb
      obtain ⟨g5, g6⟩ := ba gc
      have e2 := of_decide_eq_true g2
      have e3 := of_decide_eq_true g3
      have e4 : cd.hasDel = false := by
        cases q : cd.hasDel with
        | false => rfl
        | true => rw [q] at g4; cases g4
      clear g g1 g2 g3 g4 ga gb gc h
      subst e1 e2 e3
      obtain ⟨nm, bs, mro, ns, qn, hd, sn, sub, ab, col, del⟩ := cd
      dsimp only at hm e4 g5
      subst hm e4 g5
      have hsl : sl = #[k0, k1, k2, k3, some (.builtin "ValueError.__new__"), k5] := by
        obtain ⟨l⟩ := sl
        simp only at hs
        rw [hs]
      subst hsl
      exact ⟨nm, qn, ns, bs, bm, sn, sub, ab, col, dd, k0, k1, k2, k3, k5, ho, g6⟩
    · cases g
  · cases h
/-- one more fact of the head -/
inductive Xf where
  | own (x f : Str)
  | base (x : Str)
  | kit (x y : Str) (b : Bool)
  | kitT (x : Str) (t : String) (b : Bool)
  | emp (f x : Str)
/-- the place of a keyword-only default -/
def kwdAt (f : Str × Option Str) (x : Str) (K : PySem.W.Frag) : Addr := match K.lookup (He.fAd K f) with
  | some ⟨_, _, .func fd, _⟩ => (match fd.kwdefaults with
    | .ref D => (match PySem.W.nsIn K D x with
      | some (some (.ref a)) => a
      | _ => 0)
    | _ => 0)
  | _ => 0
/-- the empty tuple of the written part -/
def EmpT (K : Fg) (a : Addr) : Prop := ∃ (o : Obj) (its : Array Value) (n : Nat), K.lookup a = some o ∧ o.cls = .type "tuple" ∧ o.data = .seq its n ∧ its.toList = []
def empB (K : Fg) (a : Addr) : Bool := match K.lookup a with
  | some ⟨.type t, _, .seq its _, _⟩ => decide (t = "tuple") && its.toList.isEmpty
  | _ => false
theorem empB_ok {K : Fg} {a : Addr} (h : empB K a = true) : EmpT K a := by
  unfold empB at h
  split at h
  · rename_i t od its n sl e
    obtain ⟨h1, h2⟩ := He.ba h
    refine ⟨_, its, n, e, by rw [of_decide_eq_true h1], rfl, ?_⟩
    exact List.isEmpty_iff.mp h2
  · cases h
def Xf.ok (K : Fg) : Xf → Bool
  | .own x f => oexC0 K (ga K x) && (eqO (PySem.W.findIn K (.ref (ga K x)) "__setattr__") (some (some (.builtin "object.__setattr__"))) && (decide (PySem.W.subIn K (.ref (ga K x)) (.type "BaseException") = some true) && (decide (PySem.W.typeIn K (.ref (ga K x)) = some (.type "type")) && (PySem.W.keepIn K (.ref (ga K x)) &&
      (eqO (PySem.W.findIn K (.ref (ga K x)) "__init__") (some (some (.ref (ma K (ga K x) "__init__")))) && (decide (PySem.W.typeIn K (.ref (ma K (ga K x) "__init__")) = some (.type "function")) && (eqO (PySem.W.findIn K (.ref (ga K x)) f) (some none) &&
      (eqO (PySem.W.findIn K (.ref (ga K x)) "__getattribute__") (some (some (.builtin "BaseException.__getattribute__"))) && (eqO (PySem.W.findIn K (.ref (ga K x)) "__getattr__") (some none) && (PySem.W.hasDictIn K (ga K x) && (eqO (PySem.W.findIn K (.ref (ga K x)) "__class__") (some (some (.builtin "object.__class__"))) &&
      (eqO (PySem.W.specialIn K (.builtin "object.__class__") "__get__") (some (some (.builtin "getset_descriptor.__get__"))) && (decide (PySem.W.takesIn K (.builtin "object.__class__") = some true) && decide (PySem.W.mroIn K (ga K x) (.type "object") = some true))))))))))))))
  | .base x => eqO (PySem.W.specialIn K (.ref (ga K x)) "__getattribute__") (some (some (.builtin "type.__getattribute__"))) && (decide (PySem.W.typeIn K (.ref (ga K x)) = some (.type "type")) && (PySem.W.readsIn K (ga K x) (.type "type") && (match PySem.W.findCls K (.ref (ga K x)) (.type "type") "__init__" with
    | some (.val (.builtin i)) => decide (i = "ValueError.__init__")
    | _ => false)))
  | .kit x y b => decide (PySem.W.kitOne K (.ref (ga K x)) (.ref (ga K y)) = some b)
  | .kitT x t b => decide (PySem.W.kitOne K (.ref (ga K x)) (.type t) = some b)
  | .emp f x => empB K (kwdAt (f, none) x K)
theorem own_okX {K : Fg} {x f : Str} (h : (Xf.own x f).ok K = true) : OwnX K (ga K x) (ma K (ga K x) "__init__") f ∧ ExcC K (ga K x) := by
  obtain ⟨h0, h⟩ := ba h
  obtain ⟨h1, h⟩ := ba h
  obtain ⟨h2, h⟩ := ba h
  obtain ⟨h3, h⟩ := ba h
  obtain ⟨h4, h⟩ := ba h
  obtain ⟨h5, h⟩ := ba h
  obtain ⟨h6, h⟩ := ba h
  obtain ⟨h7, h⟩ := ba h
  obtain ⟨h8, h⟩ := ba h
  obtain ⟨h9, h⟩ := ba h
  obtain ⟨h10, h⟩ := ba h
  obtain ⟨h11, h⟩ := ba h
  obtain ⟨h12, h⟩ := ba h
  obtain ⟨h13, h14⟩ := ba h
  exact ⟨⟨⟨oexC0_ok h0, eqO_ok h1, of_decide_eq_true h2, of_decide_eq_true h3, h4⟩, eqO_ok h5, of_decide_eq_true h6, eqO_ok h7⟩, ⟨eqO_ok h8, eqO_ok h9, of_decide_eq_true h2, h10, eqO_ok h11, eqO_ok h12, of_decide_eq_true h13, of_decide_eq_true h14⟩⟩
theorem base_okX {K : Fg} {x : Str} (h : (Xf.base x).ok K = true) : BaseX K (ga K x) := by
  obtain ⟨h0, h⟩ := ba h
  obtain ⟨h1, h⟩ := ba h
  obtain ⟨h2, h⟩ := ba h
  refine ⟨eqO_ok h0, of_decide_eq_true h1, h2, ?_⟩
  split at h
  · rename_i i e
    rw [e, of_decide_eq_true h]
  · cases h
theorem kit_okX {K : Fg} {x y : Str} {b : Bool} (h : (Xf.kit x y b).ok K = true) : PySem.W.kitOne K (.ref (ga K x)) (.ref (ga K y)) = some b := of_decide_eq_true h
theorem kitT_okX {K : Fg} {x : Str} {t : String} {b : Bool} (h : (Xf.kitT x t b).ok K = true) : PySem.W.kitOne K (.ref (ga K x)) (.type t) = some b := of_decide_eq_true h
theorem emp_okX {K : Fg} {f x : Str} (h : (Xf.emp f x).ok K = true) : EmpT K (kwdAt (f, none) x K) := empB_ok h
/-- .. and the place where the modules' tables lie -/
def asE (g : Addr → Option Obj) (n : Nat) : List Addr := asD g n ++ [cStatics]
abbrev AlE : Type := AlD × Bool
def obsE (n : Nat) (fa : List Fa) (fn : List DefD) (xf : List Xf) (g : Addr → Option Obj) : AlE := (obsD fa fn (frG g (asE g n)), xf.all fun f => f.ok (frG g (asE g n)))
/-- what is told: the facts, the defs, the facts of own exceptions -/
structure SaysE (fa : List Fa) (fn : List DefD) (xf : List Xf) (K : Fg) : Prop where
  d : SaysD fa fn K
  x : (xf.all fun f => f.ok K) = true
theorem SaysE.xf {fa : List Fa} {fn : List DefD} {xf : List Xf} {K : Fg} (c : SaysE fa fn xf K) (i : Nat) {f : Xf} (h : xf[i]? = some f := by rfl) : f.ok K = true := List.all_eq_true.mp c.x f (List.mem_of_getElem? h)
def hookE (n : Nat) (fa : List Fa) (fn : List DefD) (xf : List Xf) : PySem.W.Hook where
  α := AlE
  obs := fun s => obsE n fa fn xf s.heap.get?
  val := fun _ => (valD fn, true)
  says := fun _ h => ∃ K : PySem.W.Frag, K.In h ∧ SaysE fa fn xf K
  of := fun _ _ e => ⟨_, frG_in, ⟨congrArg (fun z : AlE => z.1) e, congrArg (fun z : AlE => z.2) e⟩⟩
  keeps := fun _ _ _ ⟨K, hK, c⟩ k => ⟨K, PySem.W.Frag.In.keeps hK k, c⟩
theorem obsE_eq {n : Nat} {fa : List Fa} {fn : List DefD} {xf : List Xf} {g : Addr → Option Obj} {s : Shared} (h : ∀ a, g a = s.heap.get? a) : obsE n fa fn xf g = (hookE n fa fn xf).obs s := by
  have e : g = s.heap.get? := funext h
  rw [e] <;> rfl
/-! ### the classes by their numbers -/
def nrm (n c : Nat) : Nat := if c < n then c else 0
theorem nrm_lt {n c : Nat} (h : 0 < n) : nrm n c < n := by
  unfold nrm
  split
  · assumption
  · exact h
theorem by_nrm {P : Nat → Prop} {n : Nat} (h0 : 0 < n) (h : ∀ c, c < n → P c) (c : Nat) : P (nrm n c) := h _ (nrm_lt h0)
def clsBody : Stmt → List Stmt
  | .ClassDef _ _ _ b _ _ _ _ _ _ _ => b
  | _ => []
end FK

set_option Elab.async false
set_option linter.all false
set_option maxRecDepth 100000
set_option maxHeartbeats 2000000
/-! FK 38: split, f-strings, x[:1:-1]. -/
namespace FK
open PySem PySem.Spec PyProof.Rows L2
/-! ### split -/
def gSplit (x y : D) : Option B := match x, y with
  | .str a, .str b => if (b.length == 0) = false ∧ a.length + 2 ≤ sizeLine then some (.ow (.list ((Txt.split a b).map .str))) else none
  | _, _ => none
section
variable {X : Cx} {T : Tx} {W : WX} {e a b : Expr} {es : List Expr} {f fa fb : SE} {fs : SA} {pos p p2 : Pos}
theorem e_split {apos : Pos} (hK : X.K = T.K) (ha : PE X a (tE T W fa)) (hb : PE X b (tE T W fb)) (hs : starEach [b] X.env = [(false, eval b X.env)]) (hbase : attributeBase a "split" X.env (eval a X.env) = eval a X.env) (hline : (apos.endLine == pos.line) = true) :
    PE X (.Call (.Attribute a "split" apos) [b] [] pos) (tE T W (sStrM gSplit fa fb)) := by
  refine PE.mono (pe_split ha hb hs hbase hline) fun σ H Q h => strM (fun x y H Q ⟨Hz, d, e, b, hs, r1, r2, hg, q⟩ => ?_) h
  unfold gSplit at hg
  split at hg
  · split at hg
    · rename_i hl
      cases hg
      exact ⟨_, _, str_of r1, by rw [str_of r2], hl.1, hl.2, fun p hp => q _ _ (.lst hs hp (RepL.strs _))⟩
    · cases hg
  · cases hg
/-! ### f-strings -/
def sFmt (f : SE) : SE := fun ρ => (f ρ).frd fun x ρ1 => match x with
  | .str y => if y.length ≤ sizeLine then .ok (.fr (.str y)) ρ1 else .bad
  | .int i => if i.natAbs.log2 < 1920 then .ok (.fr (.str (toString i))) ρ1 else .bad
  | _ => .bad
theorem e_fmt (he : PE X e (tE T W f)) : PE X (.FormattedValue e (-1) none pos) (tE T W (sFmt f)) := by
  refine PE.mono (pe_fmt he) fun σ H Q ⟨Hz, ρ, F, z, h⟩ => ?_
  refine ⟨Hz, ρ, F, z, Aft.imp (Aft.frd h) fun v H1 ⟨Hz1, F1, d, ρ1, z1, s1, r1, q1⟩ => ?_⟩
  cases d with
  | str y =>
    simp only at q1
    split at q1
    · rename_i hl
      exact .inl ⟨y, str_of r1, hl, (q1.fromB s1).fin z1 (.str _)⟩
    · cases q1
  | int i =>
    simp only at q1
    split at q1
    · rename_i hl
      exact .inr ⟨i, int_of r1, hl, (q1.fromB s1).fin z1 (.str _)⟩
    · cases q1
  | _ => cases q1
def sJs : List SE → Str → SE
  | [], acc => fun ρ => .ok (.fr (.str acc)) ρ
  | f :: fs, acc => fun ρ => (f ρ).frd fun x ρ1 => match x with
    | .str y => if (acc ++ y).length ≤ sizeLine then sJs fs (acc ++ y) ρ1 else .bad
    | _ => .bad
section
variable {a0 : B} {ρ : Env} {f : SE} {fs : List SE} {acc : Str}
@[simp] theorem sFmt_eq : sFmt f (a0 :: ρ) = (f (a0 :: ρ)).frd fun x ρ1 => match x with
  | .str y => if y.length ≤ sizeLine then .ok (.fr (.str y)) ρ1 else .bad
  | .int i => if i.natAbs.log2 < 1920 then .ok (.fr (.str (toString i))) ρ1 else .bad
  | _ => .bad := rfl
@[simp] theorem sJs_nil : sJs [] acc (a0 :: ρ) = .ok (.fr (.str acc)) (a0 :: ρ) := rfl
@[simp] theorem sJs_cons : sJs (f :: fs) acc (a0 :: ρ) = (f (a0 :: ρ)).frd fun x ρ1 => match x with
    | .str y => if (acc ++ y).length ≤ sizeLine then sJs fs (acc ++ y) ρ1 else .bad
    | _ => .bad := rfl
end
theorem js_of : ∀ (fs : List SE) (acc : Str) {σ : L2.St} {H : Hp} {Q : VK}, tE T W (sJs fs acc) σ H Q → tJs (fs.map (tE T W)) acc σ H fun out H1 => Q (.str out) H1
  | [], acc, σ, H, Q, ⟨Hz, ρ, F, z, h⟩ => Aft.fin h z (.str _)
  | f :: fs, acc, σ, H, Q, ⟨Hz, ρ, F, z, h⟩ => by
    refine ⟨Hz, ρ, F, z, Aft.imp (Aft.frd h) fun v H1 ⟨Hz1, F1, d, ρ1, z1, s1, r1, q1⟩ => ?_⟩
    cases d with
    | str y =>
      simp only at q1
      split at q1
      · rename_i hl
        exact ⟨y, str_of r1, hl, js_of fs (acc ++ y) ⟨Hz1, ρ1, F1, z1, q1.fromB s1⟩⟩
      · cases q1
    | _ => cases q1
theorem e_joined {v1 v2 : Expr} {rest : List Expr} {fs : List SE} (h : PJ X (v1 :: v2 :: rest) (fs.map (tE T W))) : PE X (.JoinedStr (v1 :: v2 :: rest) pos) (tE T W (sJs fs Str.empty)) :=
  PE.mono (pe_joined h) fun _ _ _ q => js_of fs _ q
theorem j_nil : PJ X [] (([] : List SE).map (tE T W)) := .nil
theorem j_cons {es : List Expr} {fs : List SE} (h : PE X e (tE T W f)) (r : PJ X es (fs.map (tE T W))) : PJ X (e :: es) ((f :: fs).map (tE T W)) := .cons h r
end
/-! ### x[:1:-1] of a list -/
theorem fm_map {α β : Type} {f : α → Option β} {g : α → β} : ∀ {l : List α}, (∀ x ∈ l, f x = some (g x)) → l.filterMap f = l.map g
  | [], _ => rfl
  | a :: l, h => by rw [List.filterMap_cons, h a (List.mem_cons_self ..), List.map_cons, fm_map fun x hx => h x (List.mem_cons_of_mem _ hx)]
theorem bounds1 (n : Nat) : sliceBounds none (some 1) (some (-1)) n = ((n : Int) - 1, max (-1) (min 1 ((n : Int) - 1)), -1) := by
  first
  | rfl
  | simp [sliceBounds]
theorem range1 (n : Nat) : sliceRange ((n : Int) - 1) (max (-1) (min 1 ((n : Int) - 1))) (-1) = (List.range (n - 2)).map fun k => n - 1 - k := by
  unfold sliceRange
  have h1 : ¬ ((-1 : Int) > 0) := by decide
  by_cases h : n ≤ 2
  · have e : n - 2 = 0 := by omega
    rw [e]
    have h2 : ¬ ((n : Int) - 1 > max (-1) (min 1 ((n : Int) - 1))) := by omega
    simp only [h1, if_false, h2]
    rfl
  · have h2 : (n : Int) - 1 > max (-1) (min 1 ((n : Int) - 1)) := by omega
    have e : ((n : Int) - 1 - max (-1) (min 1 ((n : Int) - 1)) - -1 - 1) / (- -1) = ((n - 2 : Nat) : Int) := by
      rw [show (- -1 : Int) = 1 by decide, Int.ediv_one]
      omega
    simp only [h1, if_false, h2, if_true, e, Int.toNat_natCast]
    apply List.map_congr_left
    intro k hk
    have := List.mem_range.mp hk
    omega
theorem pick1 (items : Array Value) : slicePick items none (some 1) (some (-1)) = (items.toList.drop 2).reverse.toArray := by
  unfold slicePick
  rw [bounds1]
  show ((sliceRange ((items.size : Int) - 1) (max (-1) (min 1 ((items.size : Int) - 1))) (-1)).filterMap (items[·]?)).toArray = _
  rw [range1]
  congr 1
  rw [List.filterMap_map]
  apply List.ext_getElem?
  intro i
  have hf : (List.range (items.size - 2)).filterMap ((fun x => items[x]?) ∘ fun k => items.size - 1 - k) = (List.range (items.size - 2)).map fun k => items.getD (items.size - 1 - k) .none := by
    refine fm_map fun k hk => ?_
    have := List.mem_range.mp hk
    have hlt : items.size - 1 - k < items.size := by omega
    simp [Array.getD, hlt]
  rw [hf]
  by_cases hi : i < items.size - 2
  · have e1 : (List.range (items.size - 2))[i]? = some i := by rw [List.getElem?_range hi]
    rw [List.getElem?_map, e1, List.getElem?_reverse (by rw [List.length_drop, Array.length_toList]; exact hi), List.getElem?_drop, List.length_drop, Array.length_toList]
    have e2 : 2 + (items.size - 2 - 1 - i) = items.size - 1 - i := by omega
    rw [e2, Array.getElem?_toList]
    have hlt : items.size - 1 - i < items.size := by omega
    simp [Array.getD, hlt]
  · rw [List.getElem?_eq_none (by simpa using hi), List.getElem?_eq_none (by simpa using hi)]
section
variable {X : Cx} {T : Tx} {W : WX} {e : Expr} {f : SE}
theorem pe_rev1 {te : TE} {k k2 : Nat} {p0 p1 p2 p3 pos : Pos} (he : PE X e te) : PE X (.Subscript e (.Slice none (some (.Constant (.int 1) k2 p0)) (some (.UnaryOp .USub (.Constant (.int 1) k p1) p2)) p3) pos)
    (fun σ H Q => te σ H fun x H1 => ∃ a xs, x = .ref a ∧ SqL X.K H1 a xs ∧ ∀ p, H1 p = none → Q (.ref p) (upd H1 p (.lst (xs.drop 2).reverse))) := by
  refine ⟨fun pins s σ H Q I h => ?_⟩
  refine Subscript_ (thn (he.run pins s σ H _ I h) fun v s1 ⟨x, H1, I1, r1, q1⟩ => ?_)
  obtain ⟨a, xs, ex, hx, q⟩ := q1
  subst ex
  cases r1
  have hst : PO X (some (.UnaryOp .USub (.Constant (.int 1) k p1) p2)) (tPart (tUn (rU fun i => .int (-i)) (tC (.int 1)))) := po_some (pe_un un_neg pe_int)
  have hup : PO X (some (.Constant (.int 1) k2 p0)) (tPart (tC (.int 1))) := po_some pe_int
  refine wpAny_Slice (thn (po_none.run pins s1 σ H1 (fun o H2 => o = none ∧ H2 = H1) I1 ⟨rfl, rfl⟩) fun vl s2 ⟨l, H2, I2, pl, el, e2⟩ => ?_)
  subst el e2
  refine thn (hup.run pins s2 σ H2 (fun o H3 => o = some 1 ∧ H3 = H2) I2 ⟨1, rfl, rfl, rfl⟩) fun vu s3 ⟨u, H3, I3, pu, eu, e3⟩ => ?_
  subst eu e3
  refine thn (hst.run pins s3 σ H3 (fun o H4 => o = some (-1) ∧ H4 = H3) I3 ⟨1, rfl, -1, rfl, rfl, rfl⟩) fun vs s4 ⟨o, H4, I4, ps, eo, e4⟩ => ?_
  subst eo e4
  have I5 : Inv X pins σ H4 { s4 with heap := s4.heap.push { cls := .type "slice", data := .fields #[vl, vu, vs] } } := I4.kept (t' := s4.toks) fun b ob q => Heap.get?_push_of_some _ q
  show wpAny (model X.prog X.w) X.A (subscriptTail e (.Slice none (some (.Constant (.int 1) k2 p0)) (some (.UnaryOp .USub (.Constant (.int 1) k p1) p2)) p3) (.ref a) (.ref s4.heap.objs.size)) (EP X pins σ Q) X.xe { s4 with heap := s4.heap.push { cls := .type "slice", data := .fields #[vl, vu, vs] } }
  obtain ⟨its, r, ht, hz⟩ := I5.list hx
  have hlen := r.length
  refine tail_any (ops := [.ref a, .ref s4.heap.objs.size]) ht.isList.typeIs (PySem.slot_list_getitem.lookup) ?_ (by with_unfolding_all rfl)
  refine wpAny_getItem_list_slice ht.isList (Heap.IsSliceOf.new _ vl vu vs) pl pu ps (by decide) ?_ (by rw [List.size_toArray]; omega)
  rw [pick1]
  refine ⟨.ref _, _, I5.laid (t' := s4.toks) (o := .lst (xs.drop 2).reverse) (fun b ob q => Heap.get?_push_of_some _ q) (Nat.le_refl _) ?_, rfl, q _ (I5.hok.fresh (Nat.le_refl _))⟩
  exact ⟨by rw [List.length_reverse, List.length_drop]; omega, _, 0, (r.drop 2).reverse, Heap.get?_push_size _ rfl⟩
def gRev1 (x : D) : Option B := match x with
  | .list ds => some (.ow (.list (ds.drop 2).reverse))
  | _ => none
theorem e_rev1 (hK : X.K = T.K) {k k2 : Nat} {p0 p1 p2 p3 pos : Pos} (he : PE X e (tE T W f)) : PE X (.Subscript e (.Slice none (some (.Constant (.int 1) k2 p0)) (some (.UnaryOp .USub (.Constant (.int 1) k p1) p2)) p3) pos) (tE T W (sUn gRev1 f)) := by
  refine PE.mono (pe_rev1 he) fun σ H Q ⟨Hz, ρ, F, z, h⟩ => ?_
  refine ⟨Hz, ρ, F, z, Aft.imp (Aft.frd h) fun v H1 ⟨Hz1, F1, d, ρ1, z1, s1, r1, q1⟩ => ?_⟩
  have q4 := q1.fromB s1
  rw [hK]
  cases hg : gRev1 d with
  | none => rw [hg] at q4; cases q4
  | some b =>
    rw [hg] at q4
    unfold gRev1 at hg
    split at hg
    · cases hg
      cases r1 with
      | lst h1 k1 => exact ⟨_, _, rfl, sqL_same z1.sub h1, fun p hp => q4.made z1 (.lst z1.sub hp (k1.drop 2).reverse)⟩
    · cases hg
end
end FK

set_option Elab.async false
set_option linter.all false
set_option maxRecDepth 100000
set_option maxHeartbeats 2000000
/-! FK 19: sets of texts, and of tuples of numbers and texts (nested keys), fewer than 64 members. -/
namespace FK
open PySem PySem.Spec PyProof.Rows L2
abbrev NK := NestedKey
/-- a value with its key, in a heap -/
def KeyAt (h : Heap) (p : Value × NK) : Prop := NestedIs h p.2 p.1 ∧ p.2.depth ≤ 8
def rowsN (w : World) (L : List (Value × NK)) : List (Int × Value) := L.map fun p => (p.2.hash w, p.1)
def hsN (w : World) (L : List (Value × NK)) : List Int := L.map fun p => p.2.hash w
theorem KeyAt.up {h h' : Heap} {p : Value × NK} (x : KeyAt h p) (k : ∀ b o, h.get? b = some o → h'.get? b = some o) : KeyAt h' p :=
  ⟨NestedIs.at (fun b o _ _ e _ => k b o e) _ _ x.1, x.2⟩
theorem KeyAt.beside {h h' : Heap} {p : Value × NK} {a : Addr} {o : Obj} {es : Array (Int × Value)} {ep : Nat} {t : SetTable} (x : KeyAt h p) (ho : h.get? a = some o) (hd : o.data = .set es ep t) (hs : Heap.SameBut a h h') : KeyAt h' p :=
  ⟨NestedIs.at (fun b ob vs n hb hc => by
    refine (hs.2 b fun e => ?_).trans hb
    subst e
    rw [ho] at hb; cases hb
    rw [hd] at hc; cases hc) _ _ x.1, x.2⟩
section
variable {P : Program} {w : World}
/-- no class statement has a part in v, n levels down -/
def NoCls (P : Program) (w : World) (n : Nat) (s : Shared) (v : Value) : Prop := ∀ (A : Around) (E : Value → Shared → Prop) (Q : Bool → Shared → Prop), Q false s → wpAny (model P w) A (ofAClassStatement n v) Q E s
/-- whether hash(v) goes by value is told, whatever it is -/
def HashTold (P : Program) (w : World) (n : Nat) (s : Shared) (v : Value) : Prop := ∀ (A : Around) (E : Value → Shared → Prop) (Q : Bool → Shared → Prop), (∀ b, Q b s) → wpAny (model P w) A (hashByValue n v) Q E s
theorem NoCls.of_tuple {n : Nat} {s : Shared} {b : Addr} {o : Obj} {vs : Array Value} {m : Nat} (ho : s.heap.get? b = some o) (hc : o.cls = .type "tuple") (hd : o.data = .seq vs m) (hall : ∀ v ∈ vs.toList, NoCls P w n s v) : NoCls P w (n + 1) s (.ref b) := fun A E Q h => by
  unfold ofAClassStatement
  refine wpAny_bind (wpAny_typeOf (T := "tuple") ⟨o, ho, hc⟩ ?_)
  dsimp only
  have e : (("tuple" : String) == "tuple") = true := by decide
  simp only [e, if_true, Bool.not_true, Bool.false_eq_true, if_false]
  try refine wpAny_bind (wpAny_pure ?_)
  try simp only [Bool.not_true, Bool.false_eq_true, if_false]
  show wpAny _ _ (seqItems? (.ref b) >>= _) _ _ s
  refine wpAny_bind (wpAny_seqItems ho hd (wpAny_bind ?_))
  show wpAny _ _ (forIn vs _ _) _ _ s
  rw [← Array.forIn_toList]
  refine wpAny_forIn_list _ (fun rest r s' => r.1 = none ∧ s' = s ∧ ∀ v ∈ rest, NoCls P w n s v) _ ?_ ?_ _ _ ⟨rfl, rfl, hall⟩
  · rintro v rest r s' ⟨_, rfl, hv⟩
    refine wpAny_bind (hv v List.mem_cons_self _ _ _ ?_)
    simp only [Bool.false_eq_true, if_false]
    exact wpAny_pure ⟨rfl, rfl, fun u hu => hv u (List.mem_cons_of_mem _ hu)⟩
  · rintro ⟨r1, r2⟩ s' ⟨hr, rfl, _⟩
    simp only at hr
    subst hr
    exact wpAny_pure h
theorem HashTold.of_tuple {n : Nat} {s : Shared} {b : Addr} {o : Obj} {vs : Array Value} {m : Nat} (ho : s.heap.get? b = some o) (hc : o.cls = .type "tuple") (hd : o.data = .seq vs m) (hall : ∀ v ∈ vs.toList, HashTold P w n s v) : HashTold P w (n + 1) s (.ref b) := fun A E Q h => by
  unfold hashByValue
  refine wpAny_bind (wpAny_specialOf (T := "tuple") ⟨o, ho, hc⟩ F.slot_tuple_hash.lookup ?_)
  show wpAny _ _ (seqItems? (.ref b) >>= _) _ _ s
  refine wpAny_bind (wpAny_seqItems ho hd (wpAny_bind ?_))
  show wpAny _ _ (forIn vs _ _) _ _ s
  rw [← Array.forIn_toList]
  refine wpAny_forIn_list _ (fun rest r s' => r.1 = none ∧ s' = s ∧ ∀ v ∈ rest, HashTold P w n s v) _ ?_ ?_ _ _ ⟨rfl, rfl, hall⟩
  · rintro v rest r s' ⟨_, rfl, hv⟩
    refine wpAny_bind (hv v List.mem_cons_self _ _ _ fun c => ?_)
    cases c with
    | false =>
      simp only [Bool.not_false, if_true]
      exact wpAny_pure (wpAny_pure (h _))
    | true =>
      simp only [Bool.not_true, Bool.false_eq_true, if_false]
      exact wpAny_pure ⟨rfl, rfl, fun u hu => hv u (List.mem_cons_of_mem _ hu)⟩
  · rintro ⟨r1, r2⟩ s' ⟨hr, rfl, _⟩
    simp only at hr
    subst hr
    exact wpAny_pure (h _)
mutual
theorem noCls_key : ∀ (k : NK) (v : Value) (n : Nat) (s : Shared), NestedIs s.heap k v → k.depth ≤ n → NoCls P w n s v
  | .none, _, n, s, x, _ => by cases x; cases n <;> exact fun A E Q h => wpAny_pure h
  | .num i, _, n, s, x, _ => by cases x <;> cases n <;> exact fun A E Q h => wpAny_pure h
  | .text y, _, n, s, x, _ => by cases x; cases n <;> exact fun A E Q h => wpAny_pure h
  | .tup ks, _, n, s, x, hn => by
    cases x with
    | tup hg hc hd hk =>
      simp only [NestedKey.depth] at hn
      cases n with
      | zero => omega
      | succ n => exact .of_tuple hg hc hd (noCls_keys ks _ n s hk (by omega))
theorem noCls_keys : ∀ (ks : List NK) (vs : List Value) (n : Nat) (s : Shared), NestedAll s.heap ks vs → NestedKey.depthAll ks ≤ n → ∀ v ∈ vs, NoCls P w n s v
  | [], _, n, s, x, _, v, hv => by cases x; cases hv
  | k :: ks, _, n, s, x, hn, v, hv => by
    cases x with
    | cons x1 x2 =>
      simp only [NestedKey.depthAll] at hn
      rcases List.mem_cons.mp hv with e | hv
      · rw [e]; exact noCls_key k _ n s x1 (by omega)
      · exact noCls_keys ks _ n s x2 (by omega) v hv
end
mutual
theorem hashTold_key : ∀ (k : NK) (v : Value) (n : Nat) (s : Shared), NestedIs s.heap k v → HashTold P w n s v
  | .none, _, n, s, x => by cases x; cases n <;> exact fun A E Q h => wpAny_pure (h _)
  | .num i, _, n, s, x => by cases x <;> cases n <;> exact fun A E Q h => wpAny_pure (h _)
  | .text y, _, n, s, x => by cases x; cases n <;> exact fun A E Q h => wpAny_pure (h _)
  | .tup ks, _, n, s, x => by
    cases x with
    | tup hg hc hd hk =>
      cases n with
      | zero => exact fun A E Q h => wpAny_pure (h _)
      | succ n => exact .of_tuple hg hc hd (hashTold_keys ks _ n s hk)
theorem hashTold_keys : ∀ (ks : List NK) (vs : List Value) (n : Nat) (s : Shared), NestedAll s.heap ks vs → ∀ v ∈ vs, HashTold P w n s v
  | [], _, n, s, x, v, hv => by cases x; cases hv
  | k :: ks, _, n, s, x, v, hv => by
    cases x with
    | cons x1 x2 =>
      rcases List.mem_cons.mp hv with e | hv
      · rw [e]; exact hashTold_key k _ n s x1
      · exact hashTold_keys ks _ n s x2 v hv
end
/-- a search among keys shows nothing -/
theorem seen_keys {A : Around} {E : Value → Shared → Prop} {s : Shared} {x : Value × NK} {Q : Bool → Shared → Prop} (hk : KeyAt s.heap x) {ys : List Value} (hy : ∀ y ∈ ys, ∃ k, KeyAt s.heap (y, k)) (h : Q false s) :
    wpAny (model P w) A (searchCouldBeSeen x.1 ys) Q E s := by
  unfold searchCouldBeSeen
  refine wpAny_bind (wpAny_forIn_list _ (fun rest r s' => r.1 = none ∧ s' = s ∧ ∀ y ∈ rest, ∃ k, KeyAt s.heap (y, k)) _ ?_ ?_ _ _ ⟨rfl, rfl, hy⟩)
  · rintro v rest r s' ⟨_, rfl, hv⟩
    obtain ⟨k', hk'⟩ := hv v List.mem_cons_self
    have more : ∀ y ∈ rest, ∃ k, KeyAt s'.heap (y, k) := fun u hu => hv u (List.mem_cons_of_mem _ hu)
    dsimp only
    generalize hb : (_ || _ : Bool) = b
    cases b with
    | true => exact wp_if_pos rfl (wpAny_pure ⟨rfl, rfl, more⟩)
    | false =>
      refine wp_if_neg (by decide) ?_
      refine wpAny_bind (quiet_key _ _ 8 s' hk.1 hk.2 _ _ _ ?_)
      simp only [Bool.not_true, Bool.false_eq_true, if_false]
      refine wpAny_bind (quiet_key _ _ 8 s' hk'.1 hk'.2 _ _ _ ?_)
      simp only [Bool.not_true, Bool.false_eq_true, if_false]
      refine wpAny_bind (noCls_key _ _ 8 s' hk.1 hk.2 _ _ _ ?_)
      simp only [Bool.false_eq_true, if_false]
      refine wpAny_bind (noCls_key _ _ 8 s' hk'.1 hk'.2 _ _ _ ?_)
      simp only [Bool.false_eq_true, if_false]
      exact wpAny_pure ⟨rfl, rfl, more⟩
  · rintro ⟨r1, r2⟩ s' ⟨hr, rfl, _⟩
    simp only at hr
    subst hr
    exact wpAny_pure h
end
end FK

set_option Elab.async false
set_option linter.all false
set_option maxRecDepth 100000
set_option maxHeartbeats 2000000
/-! FK 19b: a set's table, to 306 members (masks 7, 31, 127, 511). -/
namespace FK
open PySem PySem.Spec PyProof.Rows L2
def MaskG (m : Nat) : Prop := m = 7 ∨ m = 31 ∨ m = 127 ∨ m = 511
/-- the round from x on, n steps -/
def orb (m : Nat) : Nat → Nat → List Nat
  | 0, _ => []
  | n + 1, x => x :: orb m n ((x * 5 + 1) % (m + 1))
theorem lcgI_next (m x : Nat) : ∀ k, lcgI m ((x * 5 + 1) % (m + 1)) k = lcgI m x (k + 1)
  | 0 => rfl
  | k + 1 => by
    show (lcgI m ((x * 5 + 1) % (m + 1)) k * 5 + 1) % (m + 1) = (lcgI m x (k + 1) * 5 + 1) % (m + 1)
    rw [lcgI_next m x k]
theorem lcgI_plus (m x a : Nat) : ∀ k, lcgI m (lcgI m x a) k = lcgI m x (a + k)
  | 0 => rfl
  | k + 1 => by
    show (lcgI m (lcgI m x a) k * 5 + 1) % (m + 1) = (lcgI m x (a + k) * 5 + 1) % (m + 1)
    rw [lcgI_plus m x a k]
theorem orb_mem {m y : Nat} : ∀ {n x : Nat}, y ∈ orb m n x → ∃ k, k < n ∧ lcgI m x k = y
  | 0, _, h => nomatch h
  | n + 1, x, h => by
    rcases List.mem_cons.mp h with e | h
    · exact ⟨0, Nat.succ_pos _, e.symm⟩
    · obtain ⟨k, h1, h2⟩ := orb_mem h
      exact ⟨k + 1, Nat.succ_lt_succ h1, by rw [← lcgI_next]; exact h2⟩
def orbOk (m : Nat) : Bool := ((List.range (m + 1)).all fun j => (orb m (m + 1) 0).contains j) && ((orb m (m + 2) 0).getLast? == some 0)
theorem orb_last (m : Nat) : ∀ n x, (orb m (n + 1) x).getLast? = some (lcgI m x n)
  | 0, x => rfl
  | n + 1, x => by
    show (x :: orb m (n + 1) ((x * 5 + 1) % (m + 1))).getLast? = _
    rw [List.getLast?_cons, orb_last m n, lcgI_next]; rfl
theorem orb_all {m : Nat} (hm : MaskG m) : orbOk m = true := by
  rcases hm with e | e | e | e <;> subst e <;> decide +kernel
/-- from anywhere each place is met within a round -/
theorem round_all {m : Nat} (hm : MaskG m) {i j : Nat} (hi : i ≤ m) (hj : j ≤ m) : ∃ k, k ≤ m ∧ lcgI m i k = j := by
  have h := orb_all hm
  unfold orbOk at h
  rw [Bool.and_eq_true, beq_iff_eq] at h
  have zero : lcgI m 0 (m + 1) = 0 := by
    have e := h.2
    rw [orb_last m (m + 1) 0] at e
    exact Option.some.inj e
  have at_ : ∀ {x}, x ≤ m → ∃ k, k ≤ m ∧ lcgI m 0 k = x := fun {x} hx => by
    have e := List.all_eq_true.mp h.1 x (List.mem_range.mpr (Nat.lt_succ_of_le hx))
    obtain ⟨k, h1, h2⟩ := orb_mem (List.contains_iff_mem.mp e)
    exact ⟨k, Nat.le_of_lt_succ h1, h2⟩
  obtain ⟨a, ha, ea⟩ := at_ hi
  obtain ⟨b, hb, eb⟩ := at_ hj
  rw [← ea]
  by_cases c : a ≤ b
  · exact ⟨b - a, by omega, by rw [lcgI_plus, show a + (b - a) = b by omega, eb]⟩
  · refine ⟨m + 1 - a + b, by omega, ?_⟩
    rw [lcgI_plus, show a + (m + 1 - a + b) = m + 1 + b by omega, ← lcgI_plus, zero, eb]
theorem meets {m : Nat} (hm : MaskG m) (h : Int) {j : Nat} (hj : j ≤ m) : ∃ n, n ≤ m + 12 ∧ runI m (SetTable.bits h) n = j := by
  obtain ⟨k, hk, e⟩ := round_all hm (runI_le m (SetTable.bits h) 12) hj
  exact ⟨12 + k, by omega, (runI_tail (bits_lt h) k).trans e⟩
theorem way_in (m : Nat) (h : Int) (k : Nat) : way m h k ≤ m := by
  have hi : SetTable.bits h % (m + 1) ≤ m := Nat.le_of_lt_succ (Nat.mod_lt _ (Nat.succ_pos _))
  have r := runEnd_bd hi
  have q := nth_in (m := m) k (runAt m (SetTable.bits h % (m + 1)) (SetTable.bits h)) (show SetTable.bits h % (m + 1) + (SetTable.runEnd m (SetTable.bits h % (m + 1)) - SetTable.bits h % (m + 1)) ≤ m by omega)
  exact Nat.le_trans (Nat.le_add_right _ _) q
/-- a table in which all is found again -/
structure TabG (t : SetTable) (hs : List Int) : Prop where
  ris : Ris t.place.toList
  dm : t.dummies = #[]
  sz : t.place.size = hs.length
  mok : MaskG t.mask
  bd : ∀ x ∈ t.place.toList, x ≤ t.mask
  reach : ∀ (i : Nat) (h : Int) (j : Nat), hs[i]? = some h → t.place.toList[i]? = some j → ∃ k, way t.mask h k = j ∧ ∀ k', k' < k → way t.mask h k' ∈ t.place.toList
theorem odd_g {m : Nat} (h : MaskG m) : m % 2 = 1 := by rcases h with e | e | e | e <;> subst e <;> rfl
section
variable {t : SetTable} {hs : List Int}
/-- the first free place on the way -/
theorem TabG.first (T : TabG t hs) (hl : hs.length ≤ t.mask) (h : Int) : ∃ K, K < 10 * SetTable.turns t.mask ∧ way t.mask h K ∉ t.place.toList ∧ ∀ k, k < K → way t.mask h k ∈ t.place.toList := by
  obtain ⟨j, hj, hn⟩ := st_missing t.place.toList (t.mask + 1) (by rw [Array.length_toList, T.sz]; omega)
  obtain ⟨n, hn1, e⟩ := meets T.mok h (Nat.le_of_lt_succ hj)
  obtain ⟨k, hk, e2⟩ := run_nth t.mask (SetTable.bits h) n
  have ew : way t.mask h k = j := by
    show (nth t.mask (runAt t.mask (SetTable.bits h % (t.mask + 1)) (SetTable.bits h)) k).j = j
    rw [e2]; exact e
  obtain ⟨K, h1, h2, h3⟩ := st_least (p := fun k => way t.mask h k ∉ t.place.toList) k (by rw [ew]; exact hn)
  exact ⟨K, by unfold SetTable.turns; omega, h2, fun k' hk' => Classical.byContradiction fun w => h3 k' hk' w⟩
theorem TabG.before (T : TabG t hs) {h : Int} {K i j : Nat} (hK : way t.mask h K ∉ t.place.toList) (hi : hs[i]? = some h) (hj : t.place.toList[i]? = some j) : ∃ k, k < K ∧ way t.mask h k = j := by
  obtain ⟨k, e, hb⟩ := T.reach i h j hi hj
  refine ⟨k, Nat.lt_of_not_le fun w => ?_, e⟩
  rcases Nat.lt_or_eq_of_le w with c | c
  · exact hK (hb K c)
  · rw [c, e] at hK
    exact hK (List.mem_of_getElem? hj)
theorem TabG.put (T : TabG t hs) {h : Int} {K p : Nat} (hK : way t.mask h K ∉ t.place.toList) (hb : ∀ k, k < K → way t.mask h k ∈ t.place.toList) (hp : SetTable.below t.place (way t.mask h K) = p) :
    p ≤ hs.length ∧ TabG (t.put (way t.mask h K)).1 (hs.take p ++ h :: hs.drop p) ∧ (t.put (way t.mask h K)).1.fill = hs.length + 1 := by
  have c1 := (below_cut T.ris (way t.mask h K)).1
  rw [hp] at c1
  have hz : t.place.toList.length = hs.length := by rw [Array.length_toList, T.sz]
  have hph : p ≤ hs.length := by rw [← T.sz]; exact c1
  have hpl : p ≤ t.place.toList.length := by omega
  have hpp := put_place t (way t.mask h K)
  rw [hp] at hpp
  have hsize : (t.put (way t.mask h K)).1.place.size = hs.length + 1 := by rw [← Array.length_toList, hpp, len_ins _ hpl, hz]
  have dm := put_dm T.dm (way t.mask h K)
  have up : ∀ x ∈ t.place.toList, x ∈ (t.put (way t.mask h K)).1.place.toList := fun x hx => by rw [hpp]; exact mem_ins.2 (.inr hx)
  refine ⟨hph, ⟨ris_insert T.ris fun e => hK (List.mem_of_getElem? (by rw [Array.getElem?_toList]; exact e)), dm, by rw [len_ins _ hph]; exact hsize, T.mok, fun x hx => ?_, fun i h' j' h1 h2 => ?_⟩, ?_⟩
  · rw [hpp] at hx
    exact (mem_ins.1 hx).elim (fun e => by rw [e]; exact way_in _ _ _) (T.bd x)
  · rw [tins_get hs hph] at h1
    rw [hpp, tins_get _ hpl] at h2
    show ∃ k, way t.mask h' k = j' ∧ ∀ k', k' < k → way t.mask h' k' ∈ (t.put (way t.mask h K)).1.place.toList
    rcases Nat.lt_trichotomy i p with c | c | c
    · rw [if_pos c] at h1 h2
      obtain ⟨k, e, z⟩ := T.reach i h' j' h1 h2
      exact ⟨k, e, fun k' hk' => up _ (z k' hk')⟩
    · subst c
      rw [if_neg (Nat.lt_irrefl _), if_pos rfl] at h1 h2
      cases h1
      cases h2
      exact ⟨K, rfl, fun k' hk' => up _ (hb k' hk')⟩
    · rw [if_neg (by omega), if_neg (by omega)] at h1 h2
      obtain ⟨k, e, z⟩ := T.reach (i - 1) h' j' h1 h2
      exact ⟨k, e, fun k' hk' => up _ (z k' hk')⟩
  · show (t.put (way t.mask h K)).1.place.size + (t.put (way t.mask h K)).1.dummies.size = _
    rw [hsize, dm]; rfl
theorem TabG.unplain (T : TabG t hs) (b : Bool) : TabG { t with plain := b } hs := ⟨T.ris, T.dm, T.sz, T.mok, T.bd, T.reach⟩
end
/-! ### laid anew -/
section
variable {m : Nat}
theorem free_g (hm : MaskG m) (owner : Array (Option Nat)) (h : Int) {j : Nat} (hj : j ≤ m) (hf : oAt owner j = none) :
    ∃ K, SetTable.layClean.free m owner (SetTable.turns m) (SetTable.bits h % (m + 1)) (SetTable.bits h) = some (way m h K) ∧ oAt owner (way m h K) = none ∧ ∀ k, k < K → oAt owner (way m h k) ≠ none := by
  obtain ⟨n, hn, e⟩ := meets hm h hj
  have hw : way m h (off m (SetTable.bits h % (m + 1)) (SetTable.bits h) n) = j := by
    have q := nth_off m n (SetTable.bits h % (m + 1)) (SetTable.bits h)
    rw [itL_run] at q
    exact (congrArg SetTable.Probe.j q).trans e
  obtain ⟨K, k1, k2, k3⟩ := st_least (p := fun k => oAt owner (way m h k) = none) (off m (SetTable.bits h % (m + 1)) (SetTable.bits h) n) (by rw [hw]; exact hf)
  refine ⟨K, free_spec m owner (SetTable.turns m) n _ _ K (by unfold SetTable.turns; omega) k1 (fun k hk => ?_) (by rw [show oAt owner (nth m (runAt m (SetTable.bits h % (m + 1)) (SetTable.bits h)) K).j = none from k2]; rfl), k2, k3⟩
  cases z : oAt owner (nth m (runAt m (SetTable.bits h % (m + 1)) (SetTable.bits h)) k).j with
  | none => exact absurd z (k3 k hk)
  | some _ => rfl
theorem own_g (hm : MaskG m) {done : List Int} {owner : Array (Option Nat)} (W : L2.Own m done owner) (hl : done.length ≤ m) (h : Int) :
    ∃ j, SetTable.layClean.free m owner (SetTable.turns m) (SetTable.bits h % (m + 1)) (SetTable.bits h) = some j ∧ L2.Own m (done ++ [h]) (owner.setIfInBounds j (some done.length)) := by
  obtain ⟨ps, hps, hin⟩ := W.ps
  obtain ⟨j0, h0, hn0⟩ := st_missing ps (m + 1) (by omega)
  have hj0 : oAt owner j0 = none := Classical.byContradiction fun w => hn0 (hin j0 (Nat.le_of_lt_succ h0) w)
  obtain ⟨K, e1, e2, e3⟩ := free_g hm owner h (Nat.le_of_lt_succ h0) hj0
  have hjm := way_in m h K
  generalize hJ : way m h K = J at *
  have hself : oAt (owner.setIfInBounds J (some done.length)) J = some done.length := oAt_set_self _ (by rw [W.sz]; omega)
  have els : ∀ {i}, i ≠ J → oAt (owner.setIfInBounds J (some done.length)) i = oAt owner i := fun c => oAt_set_ne _ c
  have stay : ∀ {i}, oAt owner i ≠ none → oAt (owner.setIfInBounds J (some done.length)) i ≠ none := fun {i} hi => by
    by_cases c : i = J
    · rw [c, hself]; simp
    · rw [els c]; exact hi
  have hlen : (done ++ [h]).length = done.length + 1 := by simp
  refine ⟨J, e1, by rw [Array.size_setIfInBounds]; exact W.sz, fun j k hj e => ?_, fun k hk => ?_, J :: ps, by rw [hlen, List.length_cons, hps], fun j hj e => ?_⟩
  · by_cases c : j = J
    · subst c
      rw [hself] at e
      cases e
      exact ⟨h, K, by simp, hJ, fun k' hk' => stay (e3 k' hk')⟩
    · rw [els c] at e
      obtain ⟨h', K', a1, a2, a3⟩ := W.at_ j k hj e
      exact ⟨h', K', by rw [List.getElem?_append_left (List.getElem?_eq_some_iff.mp a1).1]; exact a1, a2, fun k' hk' => stay (a3 k' hk')⟩
  · by_cases c : k < done.length
    · obtain ⟨j, hj, e⟩ := W.all k c
      exact ⟨j, hj, by rw [els fun z => by rw [z, e2] at e; cases e]; exact e⟩
    · exact ⟨J, hjm, by rw [hself]; congr 1; omega⟩
  · by_cases c : j = J
    · exact c ▸ List.mem_cons_self
    · rw [els c] at e
      exact List.mem_cons_of_mem _ (hin j hj e)
theorem lay_g (hm : MaskG m) : ∀ (rest done : List Int) (owner : Array (Option Nat)), L2.Own m done owner → done.length + rest.length ≤ m →
    ∃ owner', rest.foldl (stepF m) (some (owner, done.length)) = some (owner', (done ++ rest).length) ∧ L2.Own m (done ++ rest) owner'
  | [], done, owner, W, _ => ⟨owner, by simp, by simpa using W⟩
  | h :: rest, done, owner, W, hl => by
    rw [List.length_cons] at hl
    obtain ⟨j, e, W'⟩ := own_g hm W (by omega) h
    obtain ⟨owner', f, W2⟩ := lay_g hm rest (done ++ [h]) _ W' (by simp; omega)
    have ea : done ++ [h] ++ rest = done ++ h :: rest := by simp
    rw [ea] at f W2
    refine ⟨owner', ?_, W2⟩
    rw [List.foldl_cons, stepF_some e, ← f]
    simp
theorem relaid_g (t : SetTable) {hs : Array Int} {wanted M : Nat} (hw : SetTable.sizeAbove wanted - 1 = M) (hM : MaskG M) (hn : hs.size ≤ M) :
    ∃ t' order, t.relaid hs wanted = some (t', order) ∧ order.toList.Perm (List.range hs.size) ∧ TabG t' (order.toList.map fun i => hs.getD i 0) ∧ t'.mask = M ∧ t'.led = t.led ∧ t'.plain = t.plain ∧ t'.dummies = #[] := by
  have hz : hs.toList.length = hs.size := Array.length_toList
  obtain ⟨owner, f, W⟩ := lay_g hM hs.toList [] _ (Own.init M) (by rw [hz]; simpa using hn)
  rw [List.nil_append] at f W
  have e : SetTable.layClean M hs = some owner := by
    rw [layClean_eq]
    have f' : hs.toList.foldl (stepF M) (some (Array.replicate (M + 1) none, 0)) = some (owner, hs.toList.length) := f
    rw [f']; rfl
  have hr : t.relaid hs wanted = some (tabOf t M owner, ((liveOf M owner).map (·.2)).toArray) := by rw [relaid_eq, hw, e]; rfl
  obtain ⟨r1, r2⟩ := ris_live (fun j => owner.getD j none) (List.range (M + 1)) (by
    unfold Ris
    first | exact List.pairwise_lt_range | exact List.pairwise_lt_range _)
  have r1 : Ris ((liveOf M owner).map (·.1)) := r1
  have r2 : ∀ x ∈ (liveOf M owner).map (·.1), x ∈ List.range (M + 1) := r2
  have hlen : (liveOf M owner).length = hs.size := by
    obtain ⟨ps, p1, p2⟩ := W.ps
    have nd : ((liveOf M owner).map (·.1)).Nodup := List.Pairwise.imp (fun h => Nat.ne_of_lt h) r1
    have a := nat_nodup_len ((liveOf M owner).map (·.1)) ps nd fun x hx => by
      obtain ⟨⟨y, k⟩, hq, rfl⟩ := List.mem_map.mp hx
      obtain ⟨b1, b2⟩ := (mem_live W.sz).1 hq
      exact p2 y b1 (by rw [b2]; simp)
    have b := nat_nodup_len (List.range hs.size) ((liveOf M owner).map (·.2)) List.nodup_range fun k hk => by
      obtain ⟨j, b1, b2⟩ := W.all k (by rw [hz]; exact List.mem_range.mp hk)
      exact List.mem_map.mpr ⟨(j, k), (mem_live W.sz).2 ⟨b1, b2⟩, rfl⟩
    rw [List.length_map] at a b
    rw [List.length_range] at b
    omega
  refine ⟨_, _, hr, perm_range hs.size _ (by simpa using hlen) fun k hk => ?_, ⟨r1, rfl, ?_, hM, fun x hx => Nat.le_of_lt_succ (List.mem_range.mp (r2 x hx)), fun i h j h1 h2 => ?_⟩, rfl, rfl, rfl, rfl⟩
  · obtain ⟨j, b1, b2⟩ := W.all k (by rw [hz]; exact hk)
    exact List.mem_map.mpr ⟨(j, k), (mem_live W.sz).2 ⟨b1, b2⟩, rfl⟩
  · show ((liveOf M owner).map (·.1)).toArray.size = (((liveOf M owner).map (·.2)).map fun i => hs.getD i 0).length
    simp
  · have h1 : (((liveOf M owner).map (·.2)).map fun i => hs.getD i 0)[i]? = some h := h1
    have h2 : ((liveOf M owner).map (·.1))[i]? = some j := h2
    rw [List.getElem?_map] at h2
    obtain ⟨⟨y, k⟩, hq, rfl⟩ := Option.map_eq_some_iff.mp h2
    rw [List.getElem?_map, List.getElem?_map, hq] at h1
    obtain ⟨b1, b2⟩ := (mem_live W.sz).1 (List.mem_of_getElem? hq)
    obtain ⟨h0, K, a1, a2, a3⟩ := W.at_ y k b1 b2
    have e0 : hs.getD k 0 = h0 := by rw [Array.getD_eq_getD_getElem?, ← Array.getElem?_toList, a1]; rfl
    have e1 : h0 = h := e0.symm.trans (Option.some.inj h1)
    subst e1
    refine ⟨K, a2, fun k' hk' => ?_⟩
    show way M h0 k' ∈ (liveOf M owner).map (·.1)
    cases z : oAt owner (way M h0 k') with
    | none => exact absurd z (a3 k' hk')
    | some k2 => exact List.mem_map.mpr ⟨(way M h0 k', k2), (mem_live W.sz).2 ⟨way_in _ _ _, z⟩, rfl⟩
theorem size_308 : SetTable.sizeAbove (SetTable.grown 77) = 512 := by decide +kernel
end
end FK

set_option Elab.async false
set_option linter.all false
set_option maxRecDepth 100000
set_option maxHeartbeats 2000000
/-! FK 20: a set of tuples: searched and added to. -/
namespace FK
open PySem PySem.Spec PyProof.Rows L2
/-- the set at a has the members L, in this order -/
structure SetN (w : World) (h : Heap) (a : Addr) (L : List (Value × NK)) (es : Array (Int × Value)) (ep : Nat) (t : SetTable) : Prop where
  ob : ∃ o, h.get? a = some o ∧ o.ExactSet ∧ o.data = .set es ep t
  rows : es.toList = rowsN w L
  nd : (L.map (·.2)).Nodup
  key : ∀ p ∈ L, KeyAt h p
  fits : t.fits es.size = true
  ris : Ris t.place.toList
  led : w.params.followText "set-order" = true ∨ t.led = true
  few : L.length < 4000
/-- and its table is one of tuples -/
structure TabN (w : World) (L : List (Value × NK)) (t : SetTable) : Prop where
  tab : TabG t (hsN w L)
  room : L.length * 5 < t.mask * 3
  refs : ∀ p ∈ L, ∃ b, p.1 = Value.ref b
  small : L.length < 300
theorem rowsN_len {w : World} {L : List (Value × NK)} {es : Array (Int × Value)} (h : es.toList = rowsN w L) : es.size = L.length := by
  have q := congrArg List.length h
  rwa [Array.length_toList, rowsN, List.length_map] at q
theorem hsN_len {w : World} {L : List (Value × NK)} : (hsN w L).length = L.length := List.length_map ..
theorem entryN {w : World} {L : List (Value × NK)} {es : Array (Int × Value)} (h : es.toList = rowsN w L) {i : Nat} {p : Value × NK} (hp : L[i]? = some p) : es[i]? = some (p.2.hash w, p.1) := by
  rw [← Array.getElem?_toList, h, rowsN, List.getElem?_map, hp]; rfl
theorem fitsN {w : World} {L : List (Value × NK)} {es : Array (Int × Value)} {t : SetTable} (hr : es.toList = rowsN w L) (T : TabG t (hsN w L)) (hl : L.length ≤ t.mask) : t.fits es.size = true := by
  have h1 := T.sz
  rw [hsN_len] at h1
  have h2 := rowsN_len hr
  unfold SetTable.fits SetTable.fill
  rw [T.dm, Bool.and_eq_true, beq_iff_eq, decide_eq_true_eq]
  show t.place.size = es.size ∧ t.place.size + 0 ≤ t.mask
  omega
theorem TabN.le {w : World} {L : List (Value × NK)} {t : SetTable} (T : TabN w L t) : L.length ≤ t.mask := by have := T.room; omega
section
variable {P : Program} {w : World} {A : Around} {E : Value → Shared → Prop} {s : Shared} {a : Addr} {L : List (Value × NK)} {es : Array (Int × Value)} {ep : Nat} {t : SetTable}
theorem eq_keys {x y : Value × NK} {Q : Bool → Shared → Prop} (hx : KeyAt s.heap x) (hy : KeyAt s.heap y) (hu : A.units + 8 < cLine) (h : Q (decide (x.2 = y.2)) s) : wpAny (model P w) A (eqBool x.1 y.1) Q E s :=
  eqAt_key x.2 y.2 A s _ _ hx.1 hy.1 (by have := hx.2; have := hy.2; omega) _ _ _ _ (by rw [← NestedKey.decide_eq]; exact h)
abbrev pathN (t : SetTable) (h : Int) (c : Nat) : SetTable.Probe := nth t.mask (runAt t.mask (SetTable.bits h % (t.mask + 1)) (SetTable.bits h)) c
theorem pathN_dummy (t : SetTable) (h : Int) (c : Nat) : (pathN t h c).dummy = none := by
  have all : ∀ (n : Nat) (p : SetTable.Probe), p.dummy = none → (nth t.mask p n).dummy = none := fun n => by
    induction n with
    | zero => exact fun p q => q
    | succ n ih => exact fun p q => ih (adv t.mask p) (by unfold adv; split <;> exact q)
  exact all c _ rfl
theorem pathN_add (t : SetTable) (h : Int) (c q : Nat) : nth t.mask (pathN t h c) q = pathN t h (c + q) := (nth_add t.mask c _ q).symm
/-- the rest of a turn behind a candidate of another key -/
theorem search_keys (S : SetN w s.heap a L es ep t) (T : TabN w L t) {x : Value × NK} (hx : KeyAt s.heap x) (hu : A.units + 8 < cLine) {K : Nat} (hKf : K < 10 * SetTable.turns t.mask)
    (hK : way t.mask (x.2.hash w) K ∉ t.place.toList) (hKb : ∀ c, c < K → way t.mask (x.2.hash w) c ∈ t.place.toList) {Q : SetFound → Shared → Prop}
    (yes : x.2 ∈ L.map (·.2) → Q (.there none) s) (no : x.2 ∉ L.map (·.2) → Q (.free (way t.mask (x.2.hash w) K) false) s) :
    ∀ (f c : Nat) (stand : Option SetTable.Probe), stand.getD (t.probeStart (x.2.hash w)) = pathN t (x.2.hash w) c → c ≤ K → K - c < f →
      (∀ (i : Nat) p, L[i]? = some p → p.2 = x.2 → ∃ d, c ≤ d ∧ d < K ∧ t.place.toList[i]? = some (way t.mask (x.2.hash w) d)) →
      wpAny (model P w) A (setSearchFrom a x.1 (x.2.hash w) true f stand) Q E s := by
  obtain ⟨o, ho, hex, hd⟩ := S.ob
  intro f
  induction f with
  | zero => exact fun c stand _ _ hf => absurd hf (Nat.not_lt_zero _)
  | succ f ih =>
    intro c stand hst hc hf ahead
    have hj : ∀ q, (nth t.mask (pathN t (x.2.hash w) c) q).j = way t.mask (x.2.hash w) (c + q) := fun q => congrArg SetTable.Probe.j (pathN_add t _ c q)
    have hend : (nth t.mask (pathN t (x.2.hash w) c) (K - c)).j = way t.mask (x.2.hash w) K := by rw [hj]; congr 1; omega
    have hashAt : ∀ (i : Nat) p, L[i]? = some p → (fun i => (es[i]?.map (·.1)).getD 0) i = p.2.hash w := fun i p hp => by
      show (es[i]?.map (·.1)).getD 0 = _
      rw [entryN S.rows hp]; rfl
    rw [setSearchFrom_succ]
    refine wpAny_bind (wpAny_setState_of ho hd S.fits ?_)
    dsimp only
    refine wp_if_neg (by unfold SetTable.gaveWay; rw [odd_g T.tab.mok]; decide) ?_
    try refine wpAny_bind (wpAny_pure ?_)
    rcases go_spec t T.tab.ris T.tab.dm (fun i => (es[i]?.map (·.1)).getD 0) (x.2.hash w) (10 * SetTable.turns t.mask) (K - c) _ (pathN_dummy t _ c) (by omega)
        (fun q hq => by rw [hj]; exact hKb _ (by omega)) (by rw [hend]; exact hK) with ⟨q, i, hq, hi, _, hno, hpr⟩ | ⟨hno, hpr⟩
    · rw [hj] at hi
      have look : t.probe (fun i => (es[i]?.map (·.1)).getD 0) (x.2.hash w) (stand.getD (t.probeStart (x.2.hash w))) = some (.candidate (way t.mask (x.2.hash w) (c + q)) i (pathN t (x.2.hash w) (c + (q + 1)))) := by
        rw [hst, ← hj, ← pathN_add]; exact hpr
      rw [look]
      dsimp only
      have hil : i < L.length := by
        have h1 := (List.getElem?_eq_some_iff.mp hi).1
        have h2 := T.tab.sz
        rw [hsN_len] at h2
        rw [Array.length_toList] at h1
        omega
      obtain ⟨p, hp⟩ : ∃ p, L[i]? = some p := ⟨_, List.getElem?_eq_getElem hil⟩
      have hm : p ∈ L := List.mem_of_getElem? hp
      have rest : wpAny (model P w) A (searchRest a x.1 (x.2.hash w) true f es t (way t.mask (x.2.hash w) (c + q)) i (pathN t (x.2.hash w) (c + (q + 1)))) Q E s := by
        unfold searchRest
        rw [entryN S.rows hp]
        dsimp only
        refine wpAny_bind (wpAny_holding (eq_keys (S.key p hm) hx hu ?_))
        refine wpAny_bind (wpAny_setState_of ho hd S.fits ?_)
        dsimp only
        by_cases same : p.2 = x.2
        · exact wp_if_pos (by simp [same]) (wpAny_pure (yes (List.mem_map.mpr ⟨p, hm, same⟩)))
        · refine wp_if_neg (by simp [same]) ?_
          try refine wpAny_bind (wpAny_pure ?_)
          have live : t.slot (way t.mask (x.2.hash w) (c + q)) = .live i := slot_live T.tab.ris hi
          obtain ⟨b, hb⟩ := T.refs p hm
          rw [sameMem]
          dsimp only
          simp only [if_true, live, entryN S.rows hp, hb]
          refine wpAny_bind (wpAny_isSame_ref_self (wpAny_bind (wpAny_pure ?_)))
          simp only [if_true]
          refine wp_if_neg (by simp [same]) ?_
          refine ih (c + (q + 1)) _ rfl (by omega) (by omega) fun i0 p0 h0 e0 => ?_
          obtain ⟨d, d1, d2, d3⟩ := ahead i0 p0 h0 e0
          refine ⟨d, ?_, d2, d3⟩
          rcases Nat.lt_trichotomy d (c + q) with z | z | z
          · refine absurd ((hashAt i0 p0 h0).trans (congrArg (NestedKey.hash w) e0)) (hno (d - c) i0 (by omega) ?_)
            rw [hj, show c + (d - c) = d by omega]; exact d3
          · rw [z] at d3
            have s0 := (slot_live T.tab.ris d3).symm.trans live
            injection s0 with s0
            rw [s0, hp] at h0
            exact absurd ((congrArg Prod.snd (Option.some.inj h0)).trans e0) same
          · omega
      by_cases hl : t.led = true
      · refine wp_if_neg (by simp [hl]) ?_
        try refine wpAny_bind (wpAny_pure ?_)
        exact rest
      · refine wp_if_pos (by simp [hl]) ?_
        refine wpAny_bind (seen_keys hx (fun y hy => ?_) ?_)
        · obtain ⟨e, he, rfl⟩ := List.mem_map.mp hy
          have he1 : e ∈ es ∧ e.1 = x.2.hash w := by simpa using he
          have he2 : e ∈ es.toList := by simpa using he1.1
          rw [S.rows] at he2
          obtain ⟨p2, hp2, rfl⟩ := List.mem_map.mp he2
          exact ⟨p2.2, S.key p2 hp2⟩
        · refine wp_if_neg (by decide) ?_
          try refine wpAny_bind (wpAny_pure ?_)
          exact rest
    · have look : t.probe (fun i => (es[i]?.map (·.1)).getD 0) (x.2.hash w) (stand.getD (t.probeStart (x.2.hash w))) = some (.empty (way t.mask (x.2.hash w) K) none) := by
        rw [hst, ← hend]; exact hpr
      rw [look]
      dsimp only
      refine wpAny_pure (no fun hm => ?_)
      obtain ⟨p0, h0, e0⟩ := List.mem_map.mp hm
      obtain ⟨i0, hi0⟩ := List.mem_iff_getElem?.mp h0
      obtain ⟨d, d1, d2, d3⟩ := ahead i0 p0 hi0 e0
      refine absurd ((hashAt i0 p0 hi0).trans (congrArg (NestedKey.hash w) e0)) (hno (d - c) i0 (by omega) ?_)
      rw [hj, show c + (d - c) = d by omega]; exact d3
theorem search_keys0 (S : SetN w s.heap a L es ep t) (T : TabN w L t) {x : Value × NK} (hx : KeyAt s.heap x) (hu : A.units + 8 < cLine) {Q : SetFound → Shared → Prop} (yes : x.2 ∈ L.map (·.2) → Q (.there none) s)
    (no : ∀ K, x.2 ∉ L.map (·.2) → way t.mask (x.2.hash w) K ∉ t.place.toList → (∀ c, c < K → way t.mask (x.2.hash w) c ∈ t.place.toList) → Q (.free (way t.mask (x.2.hash w) K) false) s) :
    wpAny (model P w) A (setSearch a x.1 (x.2.hash w) true) Q E s := by
  obtain ⟨K, hKf, hK, hKb⟩ := T.tab.first (by rw [hsN_len]; exact T.le) (x.2.hash w)
  have big : K < 100000 := by
    unfold SetTable.turns at hKf
    rcases T.tab.mok with e | e | e | e <;> omega
  unfold setSearch
  refine search_keys S T hx hu hKf hK hKb yes (fun q => no K q hK hKb) 100000 0 none rfl (Nat.zero_le _) (by omega) fun i p hp e => ?_
  have hi : (hsN w L)[i]? = some (x.2.hash w) := by rw [hsN, List.getElem?_map, hp, ← e]; rfl
  have hil : i < t.place.toList.length := by
    have h1 := (List.getElem?_eq_some_iff.mp hp).1
    have h2 := T.tab.sz
    rw [hsN_len] at h2
    rw [Array.length_toList]
    omega
  obtain ⟨d, d1, d2⟩ := T.tab.before hK hi (List.getElem?_eq_getElem hil)
  exact ⟨d, Nat.zero_le _, d1, by rw [List.getElem?_eq_getElem hil, d2]⟩
end
end FK

set_option Elab.async false
set_option linter.all false
set_option maxRecDepth 100000
set_option maxHeartbeats 2000000
/-! FK 21: a tuple is put into a set. -/
namespace FK
open PySem PySem.Spec PyProof.Rows L2
theorem rowsN_put {w : World} (L : List (Value × NK)) (p : Nat) (x : Value × NK) : rowsN w (L.take p ++ x :: L.drop p) = (rowsN w L).take p ++ (x.2.hash w, x.1) :: (rowsN w L).drop p := by
  simp only [rowsN, List.map_append, List.map_cons, List.map_take, List.map_drop]
theorem hsN_put {w : World} (L : List (Value × NK)) (p : Nat) (x : Value × NK) : hsN w (L.take p ++ x :: L.drop p) = (hsN w L).take p ++ x.2.hash w :: (hsN w L).drop p := by
  simp only [hsN, List.map_append, List.map_cons, List.map_take, List.map_drop]
theorem take_all {α : Type} (l : List α) : ∀ n, n ≤ l.length → (List.range n).filterMap (fun i => l[i]?) = l.take n
  | 0, _ => rfl
  | n + 1, h => by
    rw [List.range_succ, List.filterMap_append, take_all l n (by omega), List.take_succ]
    congr 1
/-- the rows in another order -/
theorem reorder {w : World} {L : List (Value × NK)} {es : Array (Int × Value)} {order : Array Nat} (hr : es.toList = rowsN w L) (hp : order.toList.Perm (List.range L.length)) :
    ∃ M : List (Value × NK), (order.filterMap (es[·]?)).toList = rowsN w M ∧ M.Perm L ∧ hsN w M = order.toList.map fun i => (es.map (·.1)).getD i 0 := by
  have one : ∀ l : List Nat, (∀ i ∈ l, i < L.length) → l.filterMap (fun i => es[i]?) = rowsN w (l.filterMap fun i => L[i]?) ∧ hsN w (l.filterMap fun i => L[i]?) = l.map fun i => (es.map (·.1)).getD i 0 := fun l => by
    induction l with
    | nil => exact fun _ => ⟨rfl, rfl⟩
    | cons i l ih =>
      intro hl
      have hi := hl i List.mem_cons_self
      obtain ⟨e1, e2⟩ := ih fun j hj => hl j (List.mem_cons_of_mem _ hj)
      have g := List.getElem?_eq_getElem hi
      have ge := entryN hr g
      rw [List.filterMap_cons_some g, List.filterMap_cons_some ge]
      refine ⟨by rw [e1]; rfl, ?_⟩
      have z : (es.map (·.1))[i]? = some ((L[i]).2.hash w) := by rw [Array.getElem?_map, ge]; rfl
      have y : (es.map (·.1)).getD i 0 = (L[i]).2.hash w := by simp [Array.getD_eq_getD_getElem?, z]
      rw [List.map_cons, ← e2, y]; rfl
  obtain ⟨e1, e2⟩ := one order.toList fun i hi => List.mem_range.mp (hp.mem_iff.mp hi)
  refine ⟨_, by first | (rw [Array.toList_filterMap]; exact e1) | simpa using e1, ?_, e2⟩
  have z := hp.filterMap fun i => L[i]?
  rwa [take_all L _ (Nat.le_refl _), List.take_length] at z
theorem put_one {α : Type} (L : List α) (p : Nat) (x : α) : (L.take p ++ x :: L.drop p).Perm (x :: L) := by
  have h : (L.take p ++ x :: L.drop p).Perm (x :: (L.take p ++ L.drop p)) := List.perm_middle
  rwa [List.take_append_drop] at h
section
variable {P : Program} {w : World} {A : Around} {E : Value → Shared → Prop} {s : Shared} {a : Addr} {L : List (Value × NK)} {es : Array (Int × Value)} {ep : Nat} {t : SetTable}
theorem relay_keys (S : SetN w s.heap a L es ep t) (dm : t.dummies = #[]) (hfl : es.size ≤ t.mask) (refs : ∀ p ∈ L, ∃ b, p.1 = Value.ref b) (small : L.length < 300) {wanted M : Nat} (hw : SetTable.sizeAbove wanted - 1 = M) (hM : MaskG M) (hn : L.length * 5 < M * 3)
    {Q : Unit → Shared → Prop} (hQ : ∀ h' L' es' ep' t', Heap.SameBut a s.heap h' → SetN w h' a L' es' ep' t' → TabN w L' t' → L'.Perm L → Q () { s with heap := h' }) : wpAny (model P w) A (setRelay a wanted) Q E s := by
  obtain ⟨o, ho, hex, hd⟩ := S.ob
  have hsz := rowsN_len S.rows
  have few := S.few
  have hw2 : SetTable.sizeAbove wanted ≤ 512 := by rcases hM with e | e | e | e <;> omega
  obtain ⟨t', order, e, hp, T, em, el, _, _⟩ := relaid_g t (hs := es.map (·.1)) (wanted := wanted) hw hM (by rw [Array.size_map, hsz]; omega)
  rw [Array.size_map, hsz] at hp
  obtain ⟨L2, r1, r2, r3⟩ := reorder S.rows hp
  rw [← r3] at T
  have hlen := r2.length_eq
  have h2 : (order.filterMap (es[·]?)).size = es.size := by rw [rowsN_len r1, hsz, hlen]
  rw [setRelay_eq]
  refine wpAny_bind (wpAny_setState_of ho hd S.fits ?_)
  dsimp only
  refine wp_if_neg (by rw [sizeLine_eq]; omega) ?_
  try refine wpAny_bind (wpAny_pure ?_)
  rw [e]
  dsimp only
  refine wpAny_bind ?_
  refine wp_if_neg (by rw [h2]; simp) ?_
  try refine wpAny_bind (wpAny_pure ?_)
  refine wpAny_pure ?_
  dsimp only
  have sb : Heap.SameBut a s.heap (s.heap.update a (Obj.putSet (order.filterMap (es[·]?)) t')) := Heap.SameBut.update ..
  refine wpAny_storeSet_of ho hd (hQ _ L2 _ (ep + 1) t' sb ⟨⟨_, store_at ho hd, ⟨hex.1, hex.2.1, hex.2.2⟩, rfl⟩, r1, (r2.map (·.2)).nodup_iff.mpr S.nd, fun p h => (S.key p (r2.mem_iff.mp h)).beside ho hd sb, fitsN r1 T (by rw [em, hlen]; omega), T.ris, by rw [el]; exact S.led, by omega⟩
    ⟨T, by rw [em, hlen]; exact hn, fun p h => refs p (r2.mem_iff.mp h), by omega⟩ r2) (by rw [h2, hsz, sizeLine_eq]; omega)
theorem add_keys (S : SetN w s.heap a L es ep t) (T : TabN w L t) {x : Value × NK} (hx : KeyAt s.heap x) (hr : ∃ b, x.1 = Value.ref b) (hu : A.units + 8 < cLine) (hfew : L.length + 1 < 300) {Q : Bool → Shared → Prop}
    (hQ : ∀ b h' L' es' ep' t', Heap.SameBut a s.heap h' → SetN w h' a L' es' ep' t' → TabN w L' t' → (x.2 ∈ L.map (·.2) → L' = L) → (x.2 ∉ L.map (·.2) → L'.Perm (x :: L)) → Q b { s with heap := h' }) :
    wpAny (model P w) A (setAddHashed a x.1 (x.2.hash w)) Q E s := by
  obtain ⟨o, ho, hex, hd⟩ := S.ob
  have hsz := rowsN_len S.rows
  have hroom := T.room
  unfold setAddHashed
  refine wpAny_holding ?_
  rw [show (100000 : Nat) = 99999 + 1 from rfl, setAddHashedIn_succ]
  refine wpAny_bind (wpAny_setState_of ho hd S.fits ?_)
  dsimp only
  refine wp_if_neg (by obtain ⟨b, hb⟩ := hr; simp [byScan, Value.scannable, hb]) ?_
  try refine wpAny_bind (wpAny_pure ?_)
  refine wpAny_bind (search_keys0 S T hx hu (fun hm => ?_) fun K hm hK hb => ?_)
  · exact wpAny_pure (hQ false s.heap L es ep t (Heap.SameBut.refl a s.heap) S T (fun _ => rfl) fun z => absurd hm z)
  · dsimp only
    refine wpAny_bind (wpAny_setState_of ho hd S.fits ?_)
    dsimp only
    obtain ⟨q2, q3, q9⟩ := T.tab.put hK hb rfl
    have q1 : (t.put (way t.mask (x.2.hash w) K)).2 = SetTable.below t.place (way t.mask (x.2.hash w) K) := rfl
    have q4 : (t.put (way t.mask (x.2.hash w) K)).1.mask = t.mask := rfl
    have q5 : (t.put (way t.mask (x.2.hash w) K)).1.led = t.led := rfl
    generalize hpt : t.put (way t.mask (x.2.hash w) K) = pt at q1 q3 q4 q5 q9 ⊢
    obtain ⟨t1, p⟩ := pt
    dsimp only at q1 q3 q4 q5 q9 ⊢
    subst q1
    rw [hsN_len] at q9
    generalize hpp : SetTable.below t.place (way t.mask (x.2.hash w) K) = p at q2 q3 ⊢
    rw [← hsN_put] at q3
    have hin : (SetTable.insertAt es p (x.2.hash w, x.1)).toList = rowsN w (L.take p ++ x :: L.drop p) := by rw [SetTable.toList_insertAt, rowsN_put, S.rows]
    have pm := put_one L p x
    generalize L.take p ++ x :: L.drop p = L1 at pm q3 hin
    generalize SetTable.insertAt es p (x.2.hash w, x.1) = es1 at hin ⊢
    have hlen : L1.length = L.length + 1 := pm.length_eq
    have hes := rowsN_len hin
    have nd1 : (L1.map (·.2)).Nodup := (pm.map (·.2)).nodup_iff.mpr (List.nodup_cons.mpr ⟨hm, S.nd⟩)
    have refs1 : ∀ q ∈ L1, ∃ b, q.1 = Value.ref b := fun q hq => by
      rcases List.mem_cons.mp (pm.mem_iff.mp hq) with e | hq
      · rw [e]; exact hr
      · exact T.refs q hq
    have go : ∀ t2 : SetTable, TabG t2 (hsN w L1) → t2.mask = t.mask → t2.led = t.led → t2.tooFull = decide ((L.length + 1) * 5 ≥ t.mask * 3) →
        wpAny (model P w) A (do
          storeSet a es1 t2
          if (!false && t2.tooFull) = true then setRelay a (SetTable.grown (es.size + 1))
          return true) Q E s := fun t2 T2 m2 l2 f2 => by
      have sb : Heap.SameBut a s.heap (s.heap.update a (Obj.putSet es1 t2)) := Heap.SameBut.update ..
      have ho1 := store_at (es' := es1) (t' := t2) ho hd
      have key1 : ∀ q ∈ L1, KeyAt (s.heap.update a (Obj.putSet es1 t2)) q := fun q hq => by
        rcases List.mem_cons.mp (pm.mem_iff.mp hq) with e | hq
        · rw [e]; exact hx.beside ho hd sb
        · exact (S.key q hq).beside ho hd sb
      have mm : L1.length ≤ t2.mask := by
        rw [hlen, m2]
        rcases T.tab.mok with e | e | e | e <;> omega
      refine wpAny_bind (wpAny_storeSet_of ho hd ?_ (by rw [hes, hlen, sizeLine_eq]; omega))
      generalize s.heap.update a (Obj.putSet es1 t2) = h1 at sb ho1 key1 ⊢
      have S1 : SetN w h1 a L1 es1 (ep + 1) t2 := ⟨⟨_, ho1, ⟨hex.1, hex.2.1, hex.2.2⟩, rfl⟩, hin, nd1, key1, fitsN hin T2 mm, T2.ris, by rw [l2]; exact S.led, by omega⟩
      by_cases hf : (L.length + 1) * 5 ≥ t.mask * 3
      · have ff : (!false && t2.tooFull) = true := by rw [f2, decide_eq_true hf]; rfl
        have go2 : ∀ M, SetTable.sizeAbove (SetTable.grown (es.size + 1)) - 1 = M → MaskG M → (L.length + 1) * 5 < M * 3 →
            wpAny (model P w) A (setRelay a (SetTable.grown (es.size + 1))) (fun _ s' => wpAny (model P w) A (pure true) Q E s') E { s with heap := h1 } := fun M g1 g2 g4 =>
          relay_keys (s := { s with heap := h1 }) S1 T2.dm (by rw [hes]; exact mm) refs1 (by omega) g1 g2 (by rw [hlen]; exact g4) fun h2 L2 es2 ep2 t3 sb2 S2 T3 pm2 =>
            wpAny_pure (hQ true h2 L2 es2 ep2 t3 (sb.trans sb2) S2 T3 (fun z => absurd z hm) fun _ => pm2.trans pm)
        have done : wpAny (model P w) A (setRelay a (SetTable.grown (es.size + 1))) (fun _ s' => wpAny (model P w) A (pure true) Q E s') E { s with heap := h1 } := by
          rcases T.tab.mok with e | e | e | e
          · have e2 : es.size + 1 = 5 := by omega
            rw [e2]
            exact e2 ▸ go2 31 (by rw [e2, size_20]) (.inr (.inl rfl)) (by omega)
          · have e2 : es.size + 1 = 19 := by omega
            rw [e2]
            exact e2 ▸ go2 127 (by rw [e2, size_76]) (.inr (.inr (.inl rfl))) (by omega)
          · have e2 : es.size + 1 = 77 := by omega
            rw [e2]
            exact e2 ▸ go2 511 (by rw [e2, size_308]) (.inr (.inr (.inr rfl))) (by omega)
          · omega
        first
          | (refine wpAny_bind ?_; exact wp_if_pos ff done)
          | exact wp_if_pos ff (wpAny_bind done)
      · have ff : ¬ (!false && t2.tooFull) = true := by rw [f2, decide_eq_false hf]; decide
        have fin := wpAny_pure (M := model P w) (A := A) (E := E) (hQ true h1 L1 es1 (ep + 1) t2 sb S1 ⟨T2, by rw [hlen, m2]; omega, refs1, by omega⟩ (fun z => absurd z hm) fun _ => pm)
        first
          | exact wp_if_neg ff fin
          | exact wp_if_neg ff (wpAny_bind (wpAny_pure fin))
          | (refine wpAny_bind ?_; exact wp_if_neg ff (wpAny_pure fin))
    have tf : t1.tooFull = decide ((L.length + 1) * 5 ≥ t.mask * 3) := by
      unfold SetTable.tooFull
      rw [q9, q4]
    have tfb : ∀ b, ({ t1 with plain := b } : SetTable).tooFull = decide ((L.length + 1) * 5 ≥ t.mask * 3) := fun _ => tf
    have two : ∀ b : Bool, wpAny (model P w) A (do
          storeSet a es1 (if b = true then t1 else { t1 with plain := false })
          if (!false && (if b = true then t1 else { t1 with plain := false }).tooFull) = true then setRelay a (SetTable.grown (es.size + 1))
          return true) Q E s := fun b => by
      cases b
      · exact go { t1 with plain := false } (TabG.unplain q3 false) q4 q5 (tfb false)
      · exact go t1 q3 q4 q5 tf
    by_cases pl : t1.plain = true
    · first
        | exact wp_if_pos pl (wpAny_bind (hashTold_key x.2 x.1 8 s hx.1 _ _ _ fun b => two b))
        | (refine wpAny_bind ?_; exact wp_if_pos pl (hashTold_key x.2 x.1 8 s hx.1 _ _ _ fun b => two b))
    · first
        | exact wp_if_neg pl (wpAny_bind (wpAny_pure (two true)))
        | (refine wpAny_bind ?_; exact wp_if_neg pl (wpAny_pure (two true)))
end
end FK

set_option Elab.async false
set_option linter.all false
set_option maxRecDepth 100000
set_option maxHeartbeats 2000000
/-! FK 22: a text is put into a set; both kinds as one. -/
namespace FK
open PySem PySem.Spec PyProof.Rows L2
/-- all members are texts -/
def Txt (L : List (Value × NK)) : Prop := ∀ p ∈ L, ∃ x t, p = (Value.str x t, NestedKey.text x)
/-- all members are tuples -/
def Tup (L : List (Value × NK)) : Prop := ∀ p ∈ L, ∃ b ks, p = (Value.ref b, NestedKey.tup ks)
section
variable {P : Program} {w : World} {A : Around} {E : Value → Shared → Prop} {s : Shared} {a : Addr} {L : List (Value × NK)} {es : Array (Int × Value)} {ep : Nat} {t : SetTable}
theorem txt_elems (T : Txt L) (h : es.toList = rowsN w L) : ElemsOf (PySem.strKind P w) es.toList := fun e he => by
  rw [h] at he
  obtain ⟨p, hp, rfl⟩ := List.mem_map.mp he
  obtain ⟨x, t, rfl⟩ := T p hp
  exact ⟨⟨x, strKind_is _ _ _ _, rfl⟩, rfl⟩
theorem txt_is {p : Value × NK} (h : ∃ x t, p = (Value.str x t, NestedKey.text x)) (y : Str) : (PySem.strKind P w).is y p.1 = true ↔ p.2 = .text y := by
  obtain ⟨x, t, rfl⟩ := h
  constructor
  · intro q
    have z := (PySem.strKind P w).inj _ _ _ q (strKind_is P w x t)
    rw [z]
  · intro q
    injection q with q
    subst q
    exact strKind_is _ _ _ _
/-- rows in another order -/
theorem rows_perm {M : List (Int × Value)} (h : es.toList = rowsN w L) (p : M.Perm es.toList) : ∃ L', M = rowsN w L' ∧ L'.Perm L := by
  rw [h] at p
  clear h
  induction M generalizing L with
  | nil =>
    have e : rowsN w L = [] := p.symm.eq_nil
    have e2 : L = [] := List.map_eq_nil_iff.mp e
    exact ⟨[], rfl, by rw [e2]⟩
  | cons m M ih =>
    have hm : m ∈ rowsN w L := p.mem_iff.mp List.mem_cons_self
    obtain ⟨q, hq, rfl⟩ := List.mem_map.mp hm
    obtain ⟨l1, l2, rfl⟩ := List.append_of_mem hq
    have p2 : M.Perm (rowsN w (l1 ++ l2)) := by
      refine List.Perm.cons_inv (p.trans ?_)
      rw [rowsN, List.map_append, List.map_cons]
      refine List.perm_middle.trans ?_
      rw [← List.map_append]; rfl
    obtain ⟨L', e, pl⟩ := ih p2
    exact ⟨q :: L', by rw [e]; rfl, (pl.cons q).trans List.perm_middle.symm⟩
/-- the end of putting a text in -/
theorem txt_tail {g : Bool → Sem Unit} (hg : ∀ (b : Bool) (s₁ : Shared) (Q' : Unit → Shared → Prop), Q' () s₁ → wpAny (model P w) A (g b) Q' E s₁) {o : Obj} (ho : s.heap.get? a = some o) (hex : o.ExactSet) (hd : o.data = .set es ep t)
    {L1 : List (Value × NK)} {es1 : Array (Int × Value)} {t2 : SetTable} (r1 : es1.toList = rowsN w L1) (nd1 : (L1.map (·.2)).Nodup) (T1 : Txt L1) (few : L1.length < 4000) (hf : t2.fits es1.size = true) (hr : Ris t2.place.toList)
    (hl : w.params.followText "set-order" = true ∨ t2.led = true) {wasDummy : Bool} {R : Option Bool → Shared → Prop} (hR : ∀ h' L' es' ep' t', Heap.SameBut a s.heap h' → SetN w h' a L' es' ep' t' → L'.Perm L1 → R (some true) { s with heap := h' }) :
    wpAny (model P w) A (do
        storeSet a es1 t2
        if (!wasDummy && t2.tooFull) = true then do
            g (relayAll t2 es1 (SetTable.grown es1.size)).2.2
            storeSet a (relayAll t2 es1 (SetTable.grown es1.size)).1 (relayAll t2 es1 (SetTable.grown es1.size)).2.1
            pure (some true)
          else pure (some true)) R E s := by
  have keys : ∀ h, ∀ {M : List (Value × NK)}, M.Perm L1 → ∀ p ∈ M, KeyAt h p := fun h M pm p hp => by
    obtain ⟨x, t, rfl⟩ := T1 p (pm.mem_iff.mp hp)
    exact ⟨.text _ _, Nat.zero_le _⟩
  have b1 : es1.size ≤ sizeLine := by rw [rowsN_len r1, sizeLine_eq]; omega
  refine wpAny_bind (wpAny_storeSet_of ho hd ?_ b1)
  have ho1 := store_at (es' := es1) (t' := t2) ho hd
  have sb1 : Heap.SameBut a s.heap (s.heap.update a (Obj.putSet es1 t2)) := Heap.SameBut.update ..
  split
  · have pm := relayAll_perm t2 es1 (SetTable.grown es1.size)
    have f3 := relayAll_fits t2 es1 (SetTable.grown es1.size)
    have r3 := relayAll_ris t2 es1 (SetTable.grown es1.size)
    have l3 := relayAll_led t2 es1 (SetTable.grown es1.size)
    generalize relayAll t2 es1 (SetTable.grown es1.size) = Z at pm f3 r3 l3 ⊢
    obtain ⟨es2, t3, gave⟩ := Z
    dsimp only at pm f3 r3 l3 ⊢
    obtain ⟨L2, e2, p2⟩ := rows_perm r1 pm
    have b2 : es2.size ≤ sizeLine := by rw [rowsN_len e2, p2.length_eq, sizeLine_eq]; omega
    refine wpAny_bind (hg _ _ _ (wpAny_bind (wpAny_storeSet_of ho1 rfl ?_ b2)))
    have ho2 := store_at (es' := es2) (t' := t3) ho1 rfl
    exact wpAny_pure (hR _ L2 es2 _ t3 (sb1.trans (Heap.SameBut.update _ a _)) ⟨⟨_, ho2, hex, rfl⟩, e2, (p2.map (·.2)).nodup_iff.mpr nd1, keys _ p2, f3, r3, by rw [l3]; exact hl, by rw [p2.length_eq]; exact few⟩ p2)
  · exact wpAny_pure (hR _ L1 es1 _ t2 sb1 ⟨⟨_, ho1, hex, rfl⟩, r1, nd1, keys _ (List.Perm.refl _), hf, hr, hl, few⟩ (List.Perm.refl _))
theorem add_text (S : SetN w s.heap a L es ep t) (T : Txt L) {x : Str} {k : Tok} (hfew : L.length + 1 < 4000) {Q : Bool → Shared → Prop}
    (hQ : ∀ b h' L' es' ep' t', Heap.SameBut a s.heap h' → SetN w h' a L' es' ep' t' → (NestedKey.text x ∈ L.map (·.2) → L' = L) → (NestedKey.text x ∉ L.map (·.2) → L'.Perm ((Value.str x k, NestedKey.text x) :: L)) → Q b { s with heap := h' }) :
    wpAny (model P w) A (setAddHashed a (.str x k) (NestedKey.hash w (.text x))) Q E s := by
  obtain ⟨o, ho, hex, hd⟩ := S.ob
  have hsz := rowsN_len S.rows
  have hel : ElemsOf (PySem.strKind P w) es.toList := txt_elems T S.rows
  have hkey : (PySem.strKind P w).is x (.str x k) = true := strKind_is P w x k
  have hin : (∃ e ∈ es.toList, (PySem.strKind P w).is x e.2 = true) ↔ NestedKey.text x ∈ L.map (·.2) := by
    rw [S.rows]
    constructor
    · rintro ⟨e, he, q⟩
      obtain ⟨p, hp, rfl⟩ := List.mem_map.mp he
      exact List.mem_map.mpr ⟨p, hp, (txt_is (P := P) (w := w) (T p hp) x).1 q⟩
    · intro h
      obtain ⟨p, hp, e⟩ := List.mem_map.mp h
      exact ⟨_, List.mem_map.mpr ⟨p, hp, rfl⟩, (txt_is (P := P) (w := w) (T p hp) x).2 e⟩
  show wpAny _ A (setAddHashed a (.str x k) ((PySem.strKind P w).hash x)) _ _ s
  unfold setAddHashed setAddHashedIn
  refine wpAny_holding (wpAny_bind (wpAny_setState_of ho hd S.fits ?_))
  dsimp only
  rw [byScan_of (x := .str x k) rfl (by have := S.few; unfold scanBound; omega) hel]
  simp only [↓reduceIte]
  unfold setAddByScan
  refine wpAny_bind (wpAny_bind (wpAny_rule (wpAny_bind (wpAny_setScan_of hkey ho hd S.fits hel ?_))))
  cases hfi : List.findIdx? (fun e => (PySem.strKind P w).is x e.2) es.toList with
  | some j =>
    obtain ⟨hj, pj, _⟩ := List.findIdx?_eq_some_iff_getElem.mp hfi
    have yes := hin.1 ⟨es.toList[j], List.getElem_mem hj, pj⟩
    exact wpAny_pure (wpAny_pure (hQ false s.heap L es ep t (Heap.SameBut.refl a s.heap) S (fun _ => rfl) fun z => absurd yes z))
  | none =>
    have not : NestedKey.text x ∉ L.map (·.2) := fun z => by
      obtain ⟨e, he, q⟩ := hin.2 z
      have c := List.findIdx?_eq_none_iff.mp hfi e he
      rw [q] at c
      cases c
    have pm := layNew_perm t es ((PySem.strKind P w).hash x) (.str x k)
    have f1 := layNew_fits t es ((PySem.strKind P w).hash x) (.str x k)
    have r1 := layNew_ris t es ((PySem.strKind P w).hash x) (.str x k) S.ris
    have l1 := layNew_led t es ((PySem.strKind P w).hash x) (.str x k)
    dsimp only
    generalize layNew t es ((PySem.strKind P w).hash x) (.str x k) = Z at pm f1 r1 l1 ⊢
    obtain ⟨es1, t1, wasDummy, gave⟩ := Z
    dsimp only at pm f1 r1 l1 ⊢
    have e0 : (es.push ((PySem.strKind P w).hash x, Value.str x k)).toList = rowsN w (L ++ [(Value.str x k, NestedKey.text x)]) := by
      rw [Array.toList_push, S.rows, rowsN, rowsN, List.map_append]; rfl
    obtain ⟨L1, e1, p1⟩ := rows_perm e0 pm
    have p2 : L1.Perm ((Value.str x k, NestedKey.text x) :: L) := p1.trans (List.perm_append_singleton _ _)
    have T1 : Txt L1 := fun p hp => by
      rcases List.mem_cons.mp (p2.mem_iff.mp hp) with e | hp
      · exact ⟨x, k, e⟩
      · exact T p hp
    have nd1 : (L1.map (·.2)).Nodup := (p2.map (·.2)).nodup_iff.mpr (List.nodup_cons.mpr ⟨not, S.nd⟩)
    have few1 : L1.length < 4000 := by rw [p2.length_eq, List.length_cons]; exact hfew
    have led1 : w.params.followText "set-order" = true ∨ t1.led = true := S.led.imp id fun z => by rw [l1]; exact z
    have told : ∀ (b : Bool) (s₁ : Shared) (Q' : Unit → Shared → Prop), Q' () s₁ → wpAny (model P w) A (match b with | true => rule "set.scan.the-table-gave-way" | false => pure ()) Q' E s₁ :=
      fun b s₁ Q' q => by cases b <;> first | exact wpAny_pure q | exact wpAny_rule q
    have fin : ∀ h' L' es' ep' t', Heap.SameBut a s.heap h' → SetN w h' a L' es' ep' t' → L'.Perm L1 → Q true { s with heap := h' } := fun h' L' es' ep' t' sb S' pl => hQ true h' L' es' ep' t' sb S' (fun z => absurd z not) fun _ => pl.trans p2
    refine wpAny_bind (told _ _ _ ?_)
    by_cases pl : t1.plain = true
    · rw [if_pos pl]
      refine wpAny_bind ?_
      rw [hashByValue_scannable 8 (x := .str x k) rfl]
      refine wpAny_pure ?_
      refine txt_tail (wasDummy := wasDummy) (t2 := if plainKind (.str x k) = true then t1 else { t1 with plain := false }) (fun b s₁ Q' q => told b s₁ Q' q) ho hex hd e1 nd1 T1 few1 f1 r1 led1 fun h' L' es' ep' t' sb S' pl' => ?_
      dsimp only
      exact wpAny_pure (fin h' L' es' ep' t' sb S' pl')
    · rw [if_neg pl]
      refine wpAny_bind (wpAny_pure ?_)
      simp only [↓reduceIte]
      refine txt_tail (wasDummy := wasDummy) (t2 := t1) (fun b s₁ Q' q => told b s₁ Q' q) ho hex hd e1 nd1 T1 few1 f1 r1 led1 fun h' L' es' ep' t' sb S' pl' => ?_
      dsimp only
      exact wpAny_pure (fin h' L' es' ep' t' sb S' pl')
/-- both kinds of sets -/
def SetK (w : World) (tx : Bool) (h : Heap) (a : Addr) (L : List (Value × NK)) : Prop := ∃ es ep t, SetN w h a L es ep t ∧ if tx = true then Txt L else TabN w L t ∧ Tup L
def KindL (tx : Bool) (L : List (Value × NK)) : Prop := if tx = true then Txt L else Tup L
/-- how many members at most -/
def lim (tx : Bool) : Nat := if tx = true then 4000 else 300
theorem add_any {tx : Bool} (S : SetK w tx s.heap a L) {x : Value × NK} (hk : KindL tx [x]) (hx : KeyAt s.heap x) (hu : A.units + 8 < cLine) (hfew : L.length + 1 < lim tx) {Q : Bool → Shared → Prop}
    (hQ : ∀ b h' L', Heap.SameBut a s.heap h' → SetK w tx h' a L' → (x.2 ∈ L.map (·.2) → L' = L) → (x.2 ∉ L.map (·.2) → L'.Perm (x :: L)) → Q b { s with heap := h' }) :
    wpAny (model P w) A (setAddHashed a x.1 (x.2.hash w)) Q E s := by
  obtain ⟨es, ep, t, S, r⟩ := S
  have more : ∀ {C : List (Value × NK) → Prop} {L' : List (Value × NK)}, (x.2 ∈ L.map (·.2) → L' = L) → (x.2 ∉ L.map (·.2) → L'.Perm (x :: L)) → ∀ p ∈ L', p = x ∨ p ∈ L := fun {_ L'} c1 c2 p hp => by
    rcases Classical.em (x.2 ∈ L.map (·.2)) with c | c
    · rw [c1 c] at hp; exact .inr hp
    · exact List.mem_cons.mp ((c2 c).mem_iff.mp hp)
  cases tx with
  | true =>
    have T : Txt L := r
    obtain ⟨y, k, rfl⟩ := (show Txt [x] from hk) x (List.mem_singleton.mpr rfl)
    exact add_text S T hfew fun b h' L' es' ep' t' sb S' c1 c2 => hQ b h' L' sb ⟨es', ep', t', S', show Txt L' from fun p hp => by
      rcases more (C := Txt) c1 c2 p hp with e | e
      · exact ⟨y, k, e⟩
      · exact T p e⟩ c1 c2
  | false =>
    have T : TabN w L t ∧ Tup L := r
    obtain ⟨c, ks, ex⟩ := (show Tup [x] from hk) x (List.mem_singleton.mpr rfl)
    exact add_keys S T.1 hx ⟨c, by rw [ex]⟩ hu hfew fun b h' L' es' ep' t' sb S' T' c1 c2 => hQ b h' L' sb ⟨es', ep', t', S', show TabN w L' t' ∧ Tup L' from ⟨T', fun p hp => by
      rcases more (C := Tup) c1 c2 p hp with e | e
      · exact ⟨c, ks, e.trans ex⟩
      · exact T.2 p e⟩⟩ c1 c2
theorem hash_any {x : Value × NK} (hx : KeyAt s.heap x) (hu : A.units + 8 < cLine) {Q : Int → Shared → Prop} (h : Q (x.2.hash w) { s with toks := s.toks + x.2.draws }) : wpAny (model P w) A (pyHash x.1) Q E s :=
  pyHash_key x.2 x.1 A s Q hx.1 (by have := hx.2; omega) h
theorem SetK.up {tx : Bool} {h h' : Heap} (S : SetK w tx h a L) (ha : ∀ o, h.get? a = some o → h'.get? a = some o) (hk : ∀ p ∈ L, KeyAt h' p) : SetK w tx h' a L := by
  obtain ⟨es, ep, t, S, r⟩ := S
  obtain ⟨o, ho, q⟩ := S.ob
  exact ⟨es, ep, t, ⟨⟨o, ha o ho, q⟩, S.rows, S.nd, hk, S.fits, S.ris, S.led, S.few⟩, r⟩
/-- a new set -/
abbrev fob (w : World) : Obj := { cls := .type "set", dict := none, data := .set #[] 0 (.fresh 0 0 (!w.params.followText "set-order")) }
theorem SetK.new {tx : Bool} {h : Heap} (ho : h.get? a = some (fob w)) : SetK w tx h a [] := by
  have tab : TabG (.fresh 0 0 (!w.params.followText "set-order")) (hsN w []) := ⟨List.Pairwise.nil, rfl, rfl, .inl rfl, fun x hx => (by cases hx), fun i h j hi => (by simp [hsN] at hi)⟩
  refine ⟨#[], 0, _, ⟨⟨_, ho, ⟨rfl, rfl, rfl⟩, rfl⟩, rfl, List.nodup_nil, fun p hp => (by cases hp), rfl, List.Pairwise.nil, ?_, by show 0 < 4000; decide⟩, ?_⟩
  · show _ ∨ (!w.params.followText "set-order") = true
    cases w.params.followText "set-order"
    · exact .inr rfl
    · exact .inl rfl
  · cases tx with
    | true => exact fun p hp => by cases hp
    | false => exact ⟨⟨tab, by show 0 * 5 < 7 * 3; decide, fun p hp => (by cases hp), by show 0 < 300; decide⟩, fun p hp => (by cases hp)⟩
/-- what the set has got of the first i things -/
structure GotN (ks : List (Value × NK)) (i : Nat) (L : List (Value × NK)) : Prop where
  sub : ∀ p ∈ L, p ∈ ks.take i
  all : ∀ p ∈ ks.take i, p.2 ∈ L.map (·.2)
  len : L.length ≤ i
theorem GotN.step {ks L L' : List (Value × NK)} {i : Nat} {x : Value × NK} (g : GotN ks i L) (h : ks[i]? = some x) (c1 : x.2 ∈ L.map (·.2) → L' = L) (c2 : x.2 ∉ L.map (·.2) → L'.Perm (x :: L)) : GotN ks (i + 1) L' := by
  have tk : ks.take (i + 1) = ks.take i ++ [x] := by rw [List.take_succ, h]; rfl
  rcases Classical.em (x.2 ∈ L.map (·.2)) with c | c
  · rw [c1 c]
    refine ⟨fun p hp => by rw [tk]; exact List.mem_append_left _ (g.sub p hp), fun p hp => ?_, Nat.le_succ_of_le g.len⟩
    rw [tk] at hp
    rcases List.mem_append.mp hp with z | z
    · exact g.all p z
    · rw [List.mem_singleton.mp z]; exact c
  · have pm := c2 c
    refine ⟨fun p hp => ?_, fun p hp => ?_, by rw [pm.length_eq]; exact Nat.succ_le_succ g.len⟩
    · rw [tk]
      rcases List.mem_cons.mp (pm.mem_iff.mp hp) with e | z
      · rw [e]; exact List.mem_append_right _ (List.mem_singleton.mpr rfl)
      · exact List.mem_append_left _ (g.sub p z)
    · rw [(pm.map (·.2)).mem_iff, List.map_cons]
      rw [tk] at hp
      rcases List.mem_append.mp hp with z | z
      · exact List.mem_cons_of_mem _ (g.all p z)
      · rw [List.mem_singleton.mp z]; exact List.mem_cons_self
end
end FK

set_option Elab.async false
set_option linter.all false
set_option maxRecDepth 100000
set_option maxHeartbeats 4000000
/-! FK 23: set(xs), xs a list or a tuple. -/
namespace FK
open PySem PySem.Spec PyProof.Rows L2
section
variable {P : Program} {w : World} {A : Around} {E : Value → Shared → Prop} {s : Shared}
/-- set.update's loop over keys -/
theorem fill_loop {I : Addr} {fp wr : List Addr} {G : Array GenState → Array GenState → Prop} {n : Nat} {Pv : Nat → Value → Prop} {St : Nat → Shared → Prop} {R : Result → Shared → Prop} (W : WalksS P w A.in1 I fp wr G n Pv St)
    {tx : Bool} (S : Addr) (hSf : S ∉ fp) (ks : List (Value × NK)) (hn : n = ks.length) (hfew : ks.length < lim tx) (hval : ∀ i v, Pv i v → ∃ p, ks[i]? = some p ∧ v = p.1) (kind : KindL tx ks)
    (h0 : Heap) (hk : ∀ p ∈ ks, KeyAt h0 p) (hS0 : h0.get? S = none) (hw0 : ∀ b ∈ wr, h0.get? b = none) (hu : A.in1.units + 8 < cLine) :
    ∀ (m i : Nat) (s : Shared), n - i = m → i ≤ n → St i s → (∀ b o, h0.get? b = some o → s.heap.get? b = some o) → (∃ L, SetK w tx s.heap S L ∧ GotN ks i L) →
      (∀ s' L, Moved (S :: wr) G s s' → SetK w tx s'.heap S L → GotN ks n L → (∀ b o, h0.get? b = some o → s'.heap.get? b = some o) → R (.ok (.ret .none)) s') →
      codeAny (model P w) A (.builtin "set.update.loop" ⟨[.ref S, .ref I], []⟩) R s := by
  have hSw : S ∉ wr := fun h => hSf (W.sub _ h)
  have wide : ∀ b ∈ wr, b ∈ S :: wr := fun b hb => List.mem_cons_of_mem _ hb
  have kept : ∀ {s s' : Shared}, Moved wr G s s' → (∀ b o, h0.get? b = some o → s.heap.get? b = some o) → ∀ b o, h0.get? b = some o → s'.heap.get? b = some o := fun hm q b o e =>
    hm.heap b o (fun hb => by rw [hw0 b hb] at e; cases e) (q b o e)
  intro m
  induction m with
  | zero =>
    intro i s hm hi hst q ⟨L, hS, g⟩ hR
    have e : i = n := by omega
    subst e
    refine codeAny_builtin F.entry_set_update_loop ?_
    rw [Around.under_plainId F.plain_set_update_loop _]
    show wpAny _ A.in1 (pyNext (.ref I) >>= _) _ _ s
    refine wpAny_bind (W.done s _ _ hst fun s' mv => ?_)
    have q' := kept mv q
    exact wpAny_pure (hR s' L (mv.mono wide) (hS.up (fun o e => mv.heap S o hSw e) fun p hp => (hk p (List.mem_of_mem_take (g.sub p hp))).up q') g q')
  | succ m ih =>
    intro i s hm hi hst q ⟨L, hS, g⟩ hR
    have hlt : i < n := by omega
    refine codeAny_builtin F.entry_set_update_loop ?_
    rw [Around.under_plainId F.plain_set_update_loop _]
    show wpAny _ A.in1 (pyNext (.ref I) >>= _) _ _ s
    refine wpAny_bind (W.item i s _ _ hlt hst fun v s' hP hst' mv => ?_)
    obtain ⟨p, hp, rfl⟩ := hval i v hP
    have q' := kept mv q
    have hpm : p ∈ ks := List.mem_of_getElem? hp
    have hS' : SetK w tx s'.heap S L := hS.up (fun o e => mv.heap S o hSw e) fun r hr => (hk r (List.mem_of_mem_take (g.sub r hr))).up q'
    have hx : KeyAt s'.heap p := (hk p hpm).up q'
    have k1 : KindL tx [p] := by
      cases tx with
      | true => exact fun r hr => kind r (by rw [List.mem_singleton.mp hr]; exact hpm)
      | false => exact fun r hr => kind r (by rw [List.mem_singleton.mp hr]; exact hpm)
    show wpAny _ A.in1 (holding [p.1] (setAdd S p.1) >>= _) _ _ s'
    refine wpAny_bind (wpAny_holding ?_)
    unfold setAdd
    refine wpAny_holding (wpAny_bind (hash_any hx hu ?_))
    refine add_any (s := { s' with toks := s'.toks + p.2.draws }) hS' k1 hx hu (by have := g.len; omega) fun b h' L' sb hS2 c1 c2 => ?_
    have q2 : ∀ b o, h0.get? b = some o → h'.get? b = some o := fun b o e => (sb.2 b (fun z => by rw [z, hS0] at e; cases e)).trans (q' b o e)
    refine wpAny_pure ⟨plainId_quiet F.plain_set_update_loop _, ih (i + 1) _ (by omega) hlt (W.frame _ s' _ _ hst' (Nat.le_add_right _ _) fun b hb o e => ?_) q2 ⟨L', hS2, g.step hp c1 c2⟩ fun s'' L2 mv2 hS3 g3 q3 => ?_⟩
    · rw [sb.2 b (fun h : b = S => hSf (by rw [← h]; exact hb))]; exact e
    · refine hR s'' L2 (Moved.trans W.gtrans ((mv.mono wide).then_heap (Nat.le_add_right _ _) fun b o hb e => ?_) mv2) hS3 g3 q3
      rw [sb.2 b (fun h : b = S => hb (by rw [h]; exact List.mem_cons_self))]; exact e

/-- set(xs), xs a list -/
theorem set_of_list {tx : Bool} {l : Addr} {items : Array Value} (ks : List (Value × NK)) {Q : Value → Shared → Prop} (hh : A.handled = none) (hl : s.heap.IsList l items) (hit : items.toList = ks.map (·.1))
    (hk : ∀ p ∈ ks, KeyAt s.heap p) (kind : KindL tx ks) (hfew : ks.length < lim tx) (hu : A.units + 11 < cLine)
    (h : ∀ (h' : Heap) (tk : Nat) L, SetK w tx h' s.heap.objs.size L → GotN ks ks.length L → (∀ b o, s.heap.get? b = some o → h'.get? b = some o) → s.heap.objs.size < h'.objs.size → Q (.ref s.heap.objs.size) { s with heap := h', toks := tk }) :
    wpAny (model P w) A (call (.type "set") [.ref l]) Q E s := by
  have hsz : items.size = ks.length := by
    have q := congrArg List.length hit
    rwa [Array.length_toList, List.length_map] at q
  obtain ⟨c, tl, hmro⟩ := F.called_set.mro
  have made := F.called_set.made
  have sub := F.called_set.sub
  have nt := F.called_set.notType
  have cc := F.called_set.canCreate
  have ct := F.typeCall_set_1 (.ref l)
  refine wpAny_call (codeAny_of_tree ?_)
  show wpAny _ _ (callAny (.type "set") _) _ _ _
  refine wpAny_pure ⟨Code.quiet_builtin _ (by decide +kernel), codeAny_builtin F.entry_type_call ?_⟩
  rw [Around.under_plain (weight_type_call_type "set" [.ref l] []) rfl]
  repeat (any_goals (first | assumption | wp_step))
  refine codeAny_mono (code_set_led1 (.ref l) (E := E) (Q₁ := fun obj s₁ => obj = .ref s.heap.objs.size ∧ s₁ = { s with heap := s.heap.push (fob w) }) ⟨rfl, rfl⟩) fun r s₁ hr => ?_
  cases r with
  | error e => exact hr
  | ok fl =>
    cases fl with
    | ret obj =>
      obtain ⟨rfl, rfl⟩ := hr
      have hS : (s.heap.push (fob w)).get? s.heap.objs.size = some (fob w) := Heap.get?_push_size _ rfl
      have hT : Shared.TypeIs { s with heap := s.heap.push (fob w) } (.ref s.heap.objs.size) "set" := ⟨_, hS, rfl⟩
      have il := F.called_set.init.lookup
      have ib := F.called_set.init.bind (.ref s.heap.objs.size)
      repeat (any_goals (first | assumption | wp_step))
      refine codeAny_mono (codeAny_call_builtin (R := wants (fun r s₂ => r = .none ∧ ∃ h' tk L, s₂ = { s with heap := h', toks := tk } ∧ SetK w tx h' s.heap.objs.size L ∧ GotN ks ks.length L ∧
          (∀ b o, s.heap.get? b = some o → h'.get? b = some o)) E) F.called_set.init.plain F.entry_set_init (check_set_init_1 hT ?_)) fun r₂ s₂ hr₂ => ?_
      · obtain ⟨⟨ocls, odict, odata, oslots⟩, hol, hcl, nl, hdl⟩ := hl
        simp only at hcl hdl
        subst hcl; subst hdl
        have hol' : (s.heap.push (fob w)).get? l = some { cls := .type "list", dict := odict, data := .seq items nl, slots := oslots } := Heap.get?_push_of_some _ hol
        have no1 := F.sub_list_set
        have no2 := F.sub_list_frozenset
        have no3 : (Value.type "list" == Value.type "dict") = false := by decide
        have hl1 : (s.heap.push (fob w)).IsList l items := ⟨_, hol', rfl, nl, rfl⟩
        unfold Builtin.«set.__init__» noKeywords Builtin.Frozenset.updateFrom
        generalize hPI : pyIter = PI
        wp_walk
        subst hPI
        refine wpAny_pyIter_list hl1 (wpAny_bind (wpAny_runValue ?_))
        have lt : l < s.heap.objs.size := Heap.lt_size hol
        have hh3 : A.in1.in1.in1.handled = none := by simp [hh]
        have far : l ≠ (s.heap.push (fob w)).objs.size := by rw [Heap.size_push]; exact Nat.ne_of_lt (Nat.lt_succ_of_lt lt)
        have hSf : s.heap.objs.size ∉ [(s.heap.push (fob w)).objs.size, l] := by
          rw [Heap.size_push]
          simp only [List.mem_cons, List.not_mem_nil, or_false, not_or]
          exact ⟨Nat.ne_of_lt (Nat.lt_succ_self _), Nat.ne_of_gt lt⟩
        have hval : ∀ (i : Nat) (v : Value), items[i]? = some v → ∃ p, ks[i]? = some p ∧ v = p.1 := fun i v hv => by
          rw [← Array.getElem?_toList, hit, List.getElem?_map] at hv
          cases hq : ks[i]? with
          | none => rw [hq] at hv; cases hv
          | some p => rw [hq] at hv; exact ⟨p, rfl, (Option.some.inj hv).symm⟩
        have none_of : ∀ b, s.heap.objs.size ≤ b → s.heap.get? b = none := fun b hb => by
          cases q : s.heap.get? b with
          | none => rfl
          | some o => exact absurd (Heap.lt_size q) (Nat.not_lt.mpr hb)
        refine fill_loop (tx := tx) ((Walks.list hh3 _ l far items).toS) s.heap.objs.size hSf ks hsz hfew hval kind s.heap hk (none_of _ (Nat.le_refl _)) (fun b hb => none_of b (by
            rw [List.mem_singleton.mp hb, Heap.size_push]; omega)) (by simp only [Around.in1_units] at *; omega) (items.size - 0) 0 _ (by omega) (Nat.zero_le _)
          ⟨⟨_, Heap.get?_push_size _ rfl, rfl, rfl⟩, hl1.push _⟩ (fun b o e => Heap.get?_push_of_some _ (Heap.get?_push_of_some _ e)) ⟨[], SetK.new (Heap.get?_push_of_some _ hS), ⟨fun p hp => (by cases hp), fun p hp => (by simp at hp), Nat.le_refl _⟩⟩ ?_
        intro s' L mv hS' g' q
        obtain ⟨h', g2, d', tk', os'⟩ := s'
        have eg : g2 = s.gens := mv.gens
        have ed : d' = s.drawn := mv.drawn
        have eo : os' = s.os := mv.os
        subst eg; subst ed; subst eo
        show wpAny _ _ _ _ _ _
        refine wpAny_pure ?_
        show wpAny _ _ (ret Value.none) _ _ _
        rw [hsz] at g'
        exact wpAny_pure ⟨rfl, h', tk', L, rfl, hS', g', q⟩
      · cases r₂ with
        | error e => exact hr₂
        | ok fl₂ =>
          cases fl₂ with
          | ret r =>
            obtain ⟨rfl, h', tk, L, rfl, hS', g', q⟩ := hr₂
            repeat (any_goals (first | assumption | wp_step))
            obtain ⟨_, _, _, S0, _⟩ := hS'
            exact h _ _ L ⟨_, _, _, S0, by assumption⟩ g' q (let ⟨_, e, _⟩ := S0.ob; Heap.lt_size e)
          | _ => exact hr₂.elim
    | _ => exact hr.elim

/-- set(xs), xs a tuple -/
theorem set_of_tuple {tx : Bool} {l : Addr} {items : Array Value} (ks : List (Value × NK)) {Q : Value → Shared → Prop} (hh : A.handled = none) (hl : s.heap.IsTuple l items) (hit : items.toList = ks.map (·.1))
    (hk : ∀ p ∈ ks, KeyAt s.heap p) (kind : KindL tx ks) (hfew : ks.length < lim tx) (hu : A.units + 11 < cLine)
    (h : ∀ (h' : Heap) (tk : Nat) L, SetK w tx h' s.heap.objs.size L → GotN ks ks.length L → (∀ b o, s.heap.get? b = some o → h'.get? b = some o) → s.heap.objs.size < h'.objs.size → Q (.ref s.heap.objs.size) { s with heap := h', toks := tk }) :
    wpAny (model P w) A (call (.type "set") [.ref l]) Q E s := by
  have hsz : items.size = ks.length := by
    have q := congrArg List.length hit
    rwa [Array.length_toList, List.length_map] at q
  obtain ⟨c, tl, hmro⟩ := F.called_set.mro
  have made := F.called_set.made
  have sub := F.called_set.sub
  have nt := F.called_set.notType
  have cc := F.called_set.canCreate
  have ct := F.typeCall_set_1 (.ref l)
  refine wpAny_call (codeAny_of_tree ?_)
  show wpAny _ _ (callAny (.type "set") _) _ _ _
  refine wpAny_pure ⟨Code.quiet_builtin _ (by decide +kernel), codeAny_builtin F.entry_type_call ?_⟩
  rw [Around.under_plain (weight_type_call_type "set" [.ref l] []) rfl]
  repeat (any_goals (first | assumption | wp_step))
  refine codeAny_mono (code_set_led1 (.ref l) (E := E) (Q₁ := fun obj s₁ => obj = .ref s.heap.objs.size ∧ s₁ = { s with heap := s.heap.push (fob w) }) ⟨rfl, rfl⟩) fun r s₁ hr => ?_
  cases r with
  | error e => exact hr
  | ok fl =>
    cases fl with
    | ret obj =>
      obtain ⟨rfl, rfl⟩ := hr
      have hS : (s.heap.push (fob w)).get? s.heap.objs.size = some (fob w) := Heap.get?_push_size _ rfl
      have hT : Shared.TypeIs { s with heap := s.heap.push (fob w) } (.ref s.heap.objs.size) "set" := ⟨_, hS, rfl⟩
      have il := F.called_set.init.lookup
      have ib := F.called_set.init.bind (.ref s.heap.objs.size)
      repeat (any_goals (first | assumption | wp_step))
      refine codeAny_mono (codeAny_call_builtin (R := wants (fun r s₂ => r = .none ∧ ∃ h' tk L, s₂ = { s with heap := h', toks := tk } ∧ SetK w tx h' s.heap.objs.size L ∧ GotN ks ks.length L ∧
          (∀ b o, s.heap.get? b = some o → h'.get? b = some o)) E) F.called_set.init.plain F.entry_set_init (check_set_init_1 hT ?_)) fun r₂ s₂ hr₂ => ?_
      · obtain ⟨⟨ocls, odict, odata, oslots⟩, hol, hcl, nl, hdl⟩ := hl
        simp only at hcl hdl
        subst hcl; subst hdl
        have hol' : (s.heap.push (fob w)).get? l = some { cls := .type "tuple", dict := odict, data := .seq items nl, slots := oslots } := Heap.get?_push_of_some _ hol
        have no1 := F.sub_tuple_set
        have no2 := F.sub_tuple_frozenset
        have no3 : (Value.type "tuple" == Value.type "dict") = false := by decide
        have hl1 : (s.heap.push (fob w)).IsTuple l items := ⟨_, hol', rfl, nl, rfl⟩
        unfold Builtin.«set.__init__» noKeywords Builtin.Frozenset.updateFrom
        generalize hPI : pyIter = PI
        wp_walk
        subst hPI
        refine wpAny_pyIter_tuple hl1 (wpAny_bind (wpAny_runValue ?_))
        have lt : l < s.heap.objs.size := Heap.lt_size hol
        have hh3 : A.in1.in1.in1.handled = none := by simp [hh]
        have far : l ≠ (s.heap.push (fob w)).objs.size := by rw [Heap.size_push]; exact Nat.ne_of_lt (Nat.lt_succ_of_lt lt)
        have hSf : s.heap.objs.size ∉ [(s.heap.push (fob w)).objs.size, l] := by
          rw [Heap.size_push]
          simp only [List.mem_cons, List.not_mem_nil, or_false, not_or]
          exact ⟨Nat.ne_of_lt (Nat.lt_succ_self _), Nat.ne_of_gt lt⟩
        have hval : ∀ (i : Nat) (v : Value), items[i]? = some v → ∃ p, ks[i]? = some p ∧ v = p.1 := fun i v hv => by
          rw [← Array.getElem?_toList, hit, List.getElem?_map] at hv
          cases hq : ks[i]? with
          | none => rw [hq] at hv; cases hv
          | some p => rw [hq] at hv; exact ⟨p, rfl, (Option.some.inj hv).symm⟩
        have none_of : ∀ b, s.heap.objs.size ≤ b → s.heap.get? b = none := fun b hb => by
          cases q : s.heap.get? b with
          | none => rfl
          | some o => exact absurd (Heap.lt_size q) (Nat.not_lt.mpr hb)
        refine fill_loop (tx := tx) ((Walks.tuple hh3 _ l far items).toS) s.heap.objs.size hSf ks hsz hfew hval kind s.heap hk (none_of _ (Nat.le_refl _)) (fun b hb => none_of b (by
            rw [List.mem_singleton.mp hb, Heap.size_push]; omega)) (by simp only [Around.in1_units] at *; omega) (items.size - 0) 0 _ (by omega) (Nat.zero_le _)
          ⟨⟨_, Heap.get?_push_size _ rfl, rfl, rfl⟩, hl1.push _⟩ (fun b o e => Heap.get?_push_of_some _ (Heap.get?_push_of_some _ e)) ⟨[], SetK.new (Heap.get?_push_of_some _ hS), ⟨fun p hp => (by cases hp), fun p hp => (by simp at hp), Nat.le_refl _⟩⟩ ?_
        intro s' L mv hS' g' q
        obtain ⟨h', g2, d', tk', os'⟩ := s'
        have eg : g2 = s.gens := mv.gens
        have ed : d' = s.drawn := mv.drawn
        have eo : os' = s.os := mv.os
        subst eg; subst ed; subst eo
        show wpAny _ _ _ _ _ _
        refine wpAny_pure ?_
        show wpAny _ _ (ret Value.none) _ _ _
        rw [hsz] at g'
        exact wpAny_pure ⟨rfl, h', tk', L, rfl, hS', g', q⟩
      · cases r₂ with
        | error e => exact hr₂
        | ok fl₂ =>
          cases fl₂ with
          | ret r =>
            obtain ⟨rfl, h', tk, L, rfl, hS', g', q⟩ := hr₂
            repeat (any_goals (first | assumption | wp_step))
            obtain ⟨_, _, _, S0, _⟩ := hS'
            exact h _ _ L ⟨_, _, _, S0, by assumption⟩ g' q (let ⟨_, e, _⟩ := S0.ob; Heap.lt_size e)
          | _ => exact hr₂.elim
    | _ => exact hr.elim
end
end FK

set_option Elab.async false
set_option linter.all false
set_option maxRecDepth 100000
set_option maxHeartbeats 2000000
/-! FK 24: sorted(set(xs)), len(set(xs)). -/
namespace FK
open PySem PySem.Spec PyProof.Rows L2 PySem.W
mutual
/-- the key that a datum is, up to == (numbers, texts, tuples of these) -/
def nk : D → Option NK
  | .int i => some (.num i)
  | .str x => some (.text x)
  | .tuple ds => (nks ds).map .tup
  | _ => none
def nks : List D → Option (List NK)
  | [] => some []
  | d :: ds => (nk d).bind fun k => (nks ds).map (k :: ·)
end
mutual
theorem nk_inj : ∀ (d e : D) (k : NK), nk d = some k → nk e = some k → d = e
  | .int i, e, k, h1, h2 => by
    simp only [nk, Option.some.injEq] at h1
    subst h1
    cases e <;> simp [nk] at h2
    rw [h2]
  | .str x, e, k, h1, h2 => by
    simp only [nk, Option.some.injEq] at h1
    subst h1
    cases e <;> simp [nk] at h2
    rw [h2]
  | .tuple ds, e, k, h1, h2 => by
    simp only [nk, Option.map_eq_some_iff] at h1
    obtain ⟨ks, h1, rfl⟩ := h1
    cases e <;> simp [nk] at h2
    rw [nks_inj ds _ ks h1 h2]
  | .none, e, k, h1, h2 => by simp [nk] at h1
  | .bool _, e, k, h1, h2 => by simp [nk] at h1
  | .list _, e, k, h1, h2 => by simp [nk] at h1
  | .dict _, e, k, h1, h2 => by simp [nk] at h1
theorem nks_inj : ∀ (ds es : List D) (ks : List NK), nks ds = some ks → nks es = some ks → ds = es
  | [], es, ks, h1, h2 => by
    simp only [nks, Option.some.injEq] at h1
    subst h1
    cases es with
    | nil => rfl
    | cons e es => simp [nks, Option.bind_eq_some_iff] at h2
  | d :: ds, es, ks, h1, h2 => by
    simp only [nks, Option.bind_eq_some_iff, Option.map_eq_some_iff] at h1
    obtain ⟨k, h1, kr, h3, rfl⟩ := h1
    cases es with
    | nil => simp [nks] at h2
    | cons e es =>
      simp only [nks, Option.bind_eq_some_iff, Option.map_eq_some_iff, List.cons.injEq] at h2
      obtain ⟨k', h2, kr', h4, rfl, rfl⟩ := h2
      rw [nk_inj d e _ h1 h2, nks_inj ds es _ h3 h4]
end
mutual
theorem nk_reads {h : Heap} : ∀ (d : D) (v : Value) (as : List Addr) (k : NK), Reads h v d as → nk d = some k → NestedIs h k v
  | .int i, v, as, k, r, e => by
    simp only [nk, Option.some.injEq] at e
    subst e
    cases r
    exact .int _ _
  | .str x, v, as, k, r, e => by
    simp only [nk, Option.some.injEq] at e
    subst e
    cases r
    exact .text _ _
  | .tuple ds, v, as, k, r, e => by
    simp only [nk, Option.map_eq_some_iff] at e
    obtain ⟨ks, e, rfl⟩ := e
    cases r with
    | tuple h1 h2 h3 h4 => exact .tup h1 h2 h3 (nks_reads ds _ _ ks h4 e)
  | .none, v, as, k, r, e => by simp [nk] at e
  | .bool _, v, as, k, r, e => by simp [nk] at e
  | .list _, v, as, k, r, e => by simp [nk] at e
  | .dict _, v, as, k, r, e => by simp [nk] at e
theorem nks_reads {h : Heap} : ∀ (ds : List D) (vs : List Value) (as : List Addr) (ks : List NK), ReadsAll h vs ds as → nks ds = some ks → NestedAll h ks vs
  | [], vs, as, ks, r, e => by
    simp only [nks, Option.some.injEq] at e
    subst e
    cases r
    exact .nil
  | d :: ds, vs, as, ks, r, e => by
    simp only [nks, Option.bind_eq_some_iff, Option.map_eq_some_iff] at e
    obtain ⟨k, e1, kr, e2, rfl⟩ := e
    cases r with
    | cons r1 r2 => exact .cons (nk_reads d _ _ k r1 e1) (nks_reads ds _ _ kr r2 e2)
end
open Classical in
/-- a row, each thing once (the last of the same) -/
noncomputable def once : List D → List D
  | [] => []
  | d :: ds => if d ∈ once ds then once ds else d :: once ds
theorem mem_once {x : D} : ∀ ds : List D, x ∈ once ds ↔ x ∈ ds
  | [] => Iff.rfl
  | d :: ds => by
    unfold once
    split
    · rename_i h
      rw [mem_once ds, List.mem_cons]
      exact ⟨.inr, fun q => q.elim (fun e => by rw [e]; exact (mem_once ds).1 h) id⟩
    · rw [List.mem_cons, List.mem_cons, mem_once ds]
theorem nodup_once : ∀ ds : List D, (once ds).Nodup
  | [] => List.nodup_nil
  | d :: ds => by
    unfold once
    split
    · exact nodup_once ds
    · rename_i h
      exact List.nodup_cons.mpr ⟨h, nodup_once ds⟩
/-- the things of a set, rising -/
noncomputable def rose (ds : List D) : List D := (once ds).mergeSort (dataLe false id)
/-- what can be a set here: all texts, or all tuples, of whole numbers and texts; it can be sorted, in one way -/
def SetOk (ds : List D) : Prop := (∀ d ∈ ds, okEq d = true ∧ ∃ k, nk d = some k ∧ k.depth ≤ 8) ∧ (((∀ d ∈ ds, ∃ x, d = .str x) ∧ ds.length < 4000) ∨ (∀ d ∈ ds, ∃ es, d = .tuple es) ∧ ds.length < 300)
def RoseOk (ds : List D) : Prop := SetOk ds ∧ AllAlike ds ∧ Sortable ds ∧ ∀ es : List D, es.Perm (once ds) → es.mergeSort (dataLe false id) = rose ds
open Classical in
noncomputable def gSortedSet : List D → Option B
  | [.list ds] => if RoseOk ds then some (.ow (.list (rose ds))) else none
  | [.tuple ds] => if RoseOk ds then some (.ow (.list (rose ds))) else none
  | _ => none
open Classical in
noncomputable def gLenSet : List D → Option B
  | [.list ds] => if SetOk ds then some (.fr (.int (once ds).length)) else none
  | [.tuple ds] => if SetOk ds then some (.fr (.int (once ds).length)) else none
  | _ => none
/-- a perm of images is the image of a perm -/
theorem perm_map {α β : Type} {f : α → β} : ∀ {M : List β} {L : List α}, M.Perm (L.map f) → ∃ L' : List α, M = L'.map f ∧ L'.Perm L
  | [], L, p => by
    have e2 : L = [] := List.map_eq_nil_iff.mp p.symm.eq_nil
    exact ⟨[], rfl, by rw [e2]⟩
  | m :: M, L, p => by
    obtain ⟨q, hq, rfl⟩ := List.mem_map.mp (p.mem_iff.mp List.mem_cons_self)
    obtain ⟨l1, l2, rfl⟩ := List.append_of_mem hq
    have p2 : M.Perm ((l1 ++ l2).map f) := by
      refine List.Perm.cons_inv (p.trans ?_)
      rw [List.map_append, List.map_cons, List.map_append]
      exact List.perm_middle
    obtain ⟨L', e, pl⟩ := perm_map p2
    exact ⟨q :: L', by rw [e]; rfl, (pl.cons q).trans List.perm_middle.symm⟩
end FK

set_option Elab.async false
set_option linter.all false
set_option maxRecDepth 100000
set_option maxHeartbeats 1000000
/-! FK 33: rows of texts, rows of links, rising. -/
namespace FK
open PySem PySem.Spec PyProof.Rows L2
open PySem.W (alike dataLt AllAlike Sortable dataLe)
/-- data of one kind, in their order -/
structure Rk {α : Type} (f : α → D) (lt : α → α → Prop) : Prop where
  inj : ∀ a b, f a = f b → a = b
  irr : ∀ a, ¬ lt a a
  tr : ∀ a b c, lt a b → lt b c → lt a c
  tri : ∀ a b, a = b ∨ lt a b ∨ lt b a
  dl : ∀ a b, dataLt (f a) (f b) = true ↔ lt a b
section
variable {α : Type} {f : α → D} {lt : α → α → Prop}
def leB (f : α → D) (a b : α) : Bool := !dataLt (f b) (f a)
theorem Rk.leB_iff (R : Rk f lt) (a b : α) : leB f a b = true ↔ ¬ lt b a := by
  unfold leB
  rw [Bool.not_eq_true', ← Bool.not_eq_true, R.dl]
theorem sort_map (as : List α) : (as.map f).mergeSort (dataLe false id) = (as.mergeSort (leB f)).map f :=
  (List.map_mergeSort (f := f) (r := leB f) (s := dataLe false id) (l := as) fun a _ b _ => rfl).symm
theorem Rk.sorted (R : Rk f lt) {as : List α} (nd : as.Nodup) : (as.mergeSort (leB f)).Pairwise lt := by
  have h1 : (as.mergeSort (leB f)).Pairwise fun a b => leB f a b = true := List.pairwise_mergeSort (fun a b c h1 h2 => by
    rw [R.leB_iff] at *
    intro h
    rcases R.tri b c with e | e | e
    · subst e; exact h1 h
    · exact h1 (R.tr _ _ _ e h)
    · exact h2 e) (fun a b => by
    rw [Bool.or_eq_true, R.leB_iff, R.leB_iff]
    rcases R.tri a b with e | e | e
    · subst e; exact .inl (R.irr a)
    · exact .inl fun h => R.irr _ (R.tr _ _ _ e h)
    · exact .inr fun h => R.irr _ (R.tr _ _ _ e h)) as
  have h2 : (as.mergeSort (leB f)).Nodup := (List.mergeSort_perm as (leB f)).nodup_iff.mpr nd
  refine (h1.and h2).imp fun {a b} h => ?_
  rw [R.leB_iff] at h
  rcases R.tri a b with e | e | e
  · exact absurd e h.2
  · exact e
  · exact absurd e h.1
theorem Rk.nodup (R : Rk f lt) {as : List α} (h : as.Pairwise lt) : as.Nodup := h.imp fun {a b} h e => by subst e; exact R.irr _ h
/-- two rising rows of the same things are one -/
theorem Rk.uniq (R : Rk f lt) : ∀ {as bs : List α}, as.Pairwise lt → bs.Pairwise lt → (∀ a, a ∈ as ↔ a ∈ bs) → as = bs
  | [], [], _, _, _ => rfl
  | [], b :: bs, _, _, h => absurd ((h b).2 List.mem_cons_self) (by simp)
  | a :: as, [], _, _, h => absurd ((h a).1 List.mem_cons_self) (by simp)
  | a :: as, b :: bs, h1, h2, h => by
    rw [List.pairwise_cons] at h1 h2
    have e : a = b := by
      rcases List.mem_cons.mp ((h a).1 List.mem_cons_self) with e | m1
      · exact e
      · rcases List.mem_cons.mp ((h b).2 List.mem_cons_self) with e | m2
        · exact e.symm
        · exact absurd (R.tr _ _ _ (h1.1 b m2) (h2.1 a m1)) (R.irr a)
    subst e
    refine congrArg (a :: ·) (R.uniq h1.2 h2.2 fun x => ?_)
    constructor
    · intro m
      rcases List.mem_cons.mp ((h x).1 (List.mem_cons_of_mem _ m)) with e | q
      · subst e; exact absurd (h1.1 x m) (R.irr x)
      · exact q
    · intro m
      rcases List.mem_cons.mp ((h x).2 (List.mem_cons_of_mem _ m)) with e | q
      · subst e; exact absurd (h2.1 x m) (R.irr x)
      · exact q
/-- what a row of things gives, each once, rising -/
theorem Rk.rose (R : Rk f lt) (as : List α) : ∃ rs : List α, FK.rose (as.map f) = rs.map f ∧ rs.Pairwise lt ∧ (∀ a, a ∈ rs ↔ a ∈ as) ∧ ∀ es : List D, es.Perm (once (as.map f)) → es.mergeSort (dataLe false id) = FK.rose (as.map f) := by
  have img : ∀ L : List D, (∀ d ∈ L, d ∈ as.map f) → ∃ zs : List α, L = zs.map f := by
    intro L
    induction L with
    | nil => exact fun _ => ⟨[], rfl⟩
    | cons d L ih =>
      intro h
      obtain ⟨z, _, e⟩ := List.mem_map.mp (h d List.mem_cons_self)
      obtain ⟨zs, e2⟩ := ih fun x hx => h x (List.mem_cons_of_mem _ hx)
      exact ⟨z :: zs, by rw [List.map_cons, e, e2]⟩
  obtain ⟨us, eu⟩ := img (once (as.map f)) fun d hd => (mem_once _).1 hd
  have hm : ∀ a, a ∈ us ↔ a ∈ as := fun a => by
    constructor
    · intro h
      have : f a ∈ once (as.map f) := by rw [eu]; exact List.mem_map_of_mem h
      rw [mem_once] at this
      obtain ⟨b, hb, e⟩ := List.mem_map.mp this
      rw [← R.inj _ _ e]; exact hb
    · intro h
      have : f a ∈ once (as.map f) := (mem_once _).2 (List.mem_map_of_mem h)
      rw [eu] at this
      obtain ⟨b, hb, e⟩ := List.mem_map.mp this
      rw [← R.inj _ _ e]; exact hb
  have nd : us.Nodup := by
    have h := nodup_once (as.map f)
    rw [eu] at h
    exact List.Pairwise.of_map f (fun a b h e => h (congrArg f e)) h
  have hs := R.sorted nd
  have er : FK.rose (as.map f) = (us.mergeSort (leB f)).map f := by
    unfold FK.rose
    rw [eu, sort_map]
  refine ⟨us.mergeSort (leB f), er, hs, fun a => (List.mergeSort_perm us (leB f)).mem_iff.trans (hm a), fun es pe => ?_⟩
  rw [eu] at pe
  obtain ⟨es', rfl, pe'⟩ := perm_map pe
  rw [er, sort_map]
  congr 1
  have nd' : es'.Nodup := pe'.nodup_iff.mpr nd
  exact R.uniq (R.sorted nd') hs fun a => by rw [(List.mergeSort_perm es' (leB f)).mem_iff, (List.mergeSort_perm us (leB f)).mem_iff, pe'.mem_iff]
theorem Rk.rose_self (R : Rk f lt) {as : List α} (h : as.Pairwise lt) : FK.rose (as.map f) = as.map f := by
  obtain ⟨rs, e, p, m, _⟩ := R.rose as
  rw [e, R.uniq p h m]
theorem Rk.rose_same (R : Rk f lt) {as bs : List α} (h : ∀ a, a ∈ as ↔ a ∈ bs) : FK.rose (as.map f) = FK.rose (bs.map f) := by
  obtain ⟨rs, e, p, m, _⟩ := R.rose as
  obtain ⟨rs', e', p', m', _⟩ := R.rose bs
  rw [e, e', R.uniq p p' fun a => (m a).trans ((h a).trans (m' a).symm)]
end
/-! ### texts -/
def slt (x y : Str) : Prop := x.cps.toList < y.cps.toList
instance : DecidableRel slt := fun x y => inferInstanceAs (Decidable (x.cps.toList < y.cps.toList))
theorem dl_str (x y : Str) : dataLt (.str x) (.str y) = decide (slt x y) := PySem.W.dataLt_str x y
theorem str_inj {x y : Str} (h : x.cps.toList = y.cps.toList) : x = y := PySem.W.str_of_cps h
theorem rk_str : Rk PyData.str slt where
  inj := fun a b e => by injection e
  irr := fun a => List.lt_irrefl _
  tr := fun a b c h1 h2 => List.lt_trans h1 h2
  tri := fun a b => by
    rcases Classical.em (a.cps.toList < b.cps.toList) with h | h
    · exact .inr (.inl h)
    · rcases Classical.em (b.cps.toList < a.cps.toList) with h' | h'
      · exact .inr (.inr h')
      · exact .inl (str_inj (List.le_antisymm (List.not_lt.mp h') (List.not_lt.mp h)))
  dl := fun a b => by rw [PySem.W.dataLt_str]; exact decide_eq_true_iff
/-! ### links -/
structure Lnk where
  c : Int
  m : Int
  x : Str
  y : Str
deriving DecidableEq
def ld (l : Lnk) : D := .tuple [.int l.c, .int l.m, .str l.x, .str l.y]
theorem ld_eq (l : Lnk) : ld l = .tuple [.int l.c, .int l.m, .str l.x, .str l.y] := rfl
def llt (a b : Lnk) : Prop := a.c < b.c ∨ (a.c = b.c ∧ (a.m < b.m ∨ (a.m = b.m ∧ (slt a.x b.x ∨ (a.x = b.x ∧ slt a.y b.y)))))
theorem slt_irr (a : Str) : ¬ slt a a := rk_str.irr a
theorem eqv_strs {x y : Str} : PyData.eqv (.str x) (.str y) = decide (x = y) := by
  show (x == y) = _
  simp [BEq.beq]
theorem eqv_ints {x y : Int} : PyData.eqv (.int x) (.int y) = decide (x = y) := by
  show (x == y) = _
  simp [BEq.beq]
theorem rk_lnk : Rk ld llt where
  inj := fun a b e => by
    cases a; cases b
    simp only [ld, PyData.tuple.injEq, List.cons.injEq, PyData.int.injEq, PyData.str.injEq, and_true] at e
    obtain ⟨rfl, rfl, rfl, rfl⟩ := e
    rfl
  irr := fun a h => by
    rcases h with h | ⟨_, h | ⟨_, h | ⟨_, h⟩⟩⟩
    · omega
    · omega
    · exact slt_irr _ h
    · exact slt_irr _ h
  tr := fun a b c h1 h2 => by
    rcases h1 with h1 | ⟨e1, h1⟩
    · rcases h2 with h2 | ⟨e2, h2⟩
      · exact .inl (by omega)
      · exact .inl (by omega)
    · rcases h2 with h2 | ⟨e2, h2⟩
      · exact .inl (by omega)
      · refine .inr ⟨e1.trans e2, ?_⟩
        rcases h1 with h1 | ⟨f1, h1⟩
        · rcases h2 with h2 | ⟨f2, h2⟩
          · exact .inl (by omega)
          · exact .inl (by omega)
        · rcases h2 with h2 | ⟨f2, h2⟩
          · exact .inl (by omega)
          · refine .inr ⟨f1.trans f2, ?_⟩
            rcases h1 with h1 | ⟨g1, h1⟩
            · rcases h2 with h2 | ⟨g2, h2⟩
              · exact .inl (rk_str.tr _ _ _ h1 h2)
              · exact .inl (g2 ▸ h1)
            · rcases h2 with h2 | ⟨g2, h2⟩
              · exact .inl (g1 ▸ h2)
              · exact .inr ⟨g1.trans g2, rk_str.tr _ _ _ h1 h2⟩
  tri := fun a b => by
    rcases Int.lt_trichotomy a.c b.c with h | h | h
    · exact .inr (.inl (.inl h))
    · rcases Int.lt_trichotomy a.m b.m with h2 | h2 | h2
      · exact .inr (.inl (.inr ⟨h, .inl h2⟩))
      · rcases rk_str.tri a.x b.x with h3 | h3 | h3
        · rcases rk_str.tri a.y b.y with h4 | h4 | h4
          · left; cases a; cases b; simp only at h h2 h3 h4; subst h h2 h3 h4; rfl
          · exact .inr (.inl (.inr ⟨h, .inr ⟨h2, .inr ⟨h3, h4⟩⟩⟩))
          · exact .inr (.inr (.inr ⟨h.symm, .inr ⟨h2.symm, .inr ⟨h3.symm, h4⟩⟩⟩))
        · exact .inr (.inl (.inr ⟨h, .inr ⟨h2, .inl h3⟩⟩))
        · exact .inr (.inr (.inr ⟨h.symm, .inr ⟨h2.symm, .inl h3⟩⟩))
      · exact .inr (.inr (.inr ⟨h.symm, .inl h2⟩))
    · exact .inr (.inr (.inl h))
  dl := fun a b => by
    have ai : ∀ i j : Int, alike (.int i) (.int j) = true := fun i j => by simp [alike]
    have as : ∀ i j : Str, alike (.str i) (.str j) = true := fun i j => by simp [alike]
    unfold ld
    rw [PySem.W.dataLt_tuple, PySem.W.dataLt_cons (ai _ _), PySem.W.dataLt_cons (ai _ _), PySem.W.dataLt_cons (as _ _), PySem.W.dataLt_cons (as _ _), PySem.W.dataLt_int, PySem.W.dataLt_int, dl_str, dl_str, eqv_ints, eqv_ints, eqv_strs, eqv_strs]
    have e0 : PyProof.Rows.lexLt itemOrd (PySem.W.keyToksAll []) (PySem.W.keyToksAll []) = false := lex_irrefl _
    rw [e0]
    unfold llt
    by_cases h1 : a.c = b.c
    · by_cases h2 : a.m = b.m
      · by_cases h3 : a.x = b.x
        · by_cases h4 : a.y = b.y
          · simp [h1, h2, h3, h4, slt_irr]
          · simp [h1, h2, h3, h4, slt_irr]
        · simp [h1, h2, h3, slt_irr]
      · simp [h1, h2]
    · simp [h1]
theorem alike_ld (a b : Lnk) : alike (ld a) (ld b) = true := by simp [ld, alike, PySem.W.alikeAll]
end FK

set_option Elab.async false
set_option linter.all false
set_option maxRecDepth 100000
set_option maxHeartbeats 1000000
/-! FK 39: texts cut at blanks and put together again; figures. -/
namespace FK
open PySem PySem.Spec PyProof.Rows L2 NumText TL
abbrev sp : Str := Str.ofString " "
theorem head_app {l m : List Nat} (h : l ≠ []) : (l ++ m).head? = l.head? := by
  cases l with
  | nil => exact absurd rfl h
  | cons a l => rfl
theorem tl_sp : tl sp = [32] := by decide +kernel
theorem sp_small : sp.cps.all (· < 256) = true := by decide +kernel
theorem joinL_cons {S p : List Nat} {ps : List (List Nat)} (h : ps ≠ []) : joinL S (p :: ps) = p ++ (S ++ joinL S ps) := by
  cases ps with
  | nil => exact absurd rfl h
  | cons q r => rfl
theorem spl_ne {S : List Nat} : ∀ (l acc : List Nat), spl S 0 acc l ≠ []
  | [], acc => by rw [spl_nil]; simp
  | c :: r, acc => by
    by_cases h : pre S (c :: r) = true
    · rw [spl_hit h]; simp
    · rw [spl_miss (by simpa using h)]; exact spl_ne r _
theorem join_spl : ∀ (l acc : List Nat), joinL [32] (spl [32] 0 acc l) = acc ++ l
  | [], acc => by rw [spl_nil, List.append_nil]; rfl
  | c :: r, acc => by
    by_cases h : pre [32] (c :: r) = true
    · rw [spl_hit h]
      show joinL [32] (acc :: spl [32] 0 [] r) = _
      rw [joinL_cons (spl_ne r [])]
      show acc ++ ([32] ++ joinL [32] (spl [32] 0 [] r)) = _
      rw [join_spl r [], List.nil_append]
      have e : c = 32 := by
        unfold pre at h
        simpa using h
      subst e; rfl
    · rw [spl_miss (by simpa using h), join_spl r, List.append_assoc]; rfl
theorem sp_ne : tl sp ≠ [] := by rw [tl_sp]; simp
theorem tl_split (z : Str) : (Txt.split z sp).map tl = spl [32] 0 [] (tl z) := by
  rw [split_spl z sp sp_ne (kind_ok sp_small), tl_sp]
theorem split_ne (z : Str) : Txt.split z sp ≠ [] := fun e => spl_ne (S := [32]) (tl z) [] (by rw [← tl_split, e]; rfl)
theorem tl_joinS (ws : List Str) : tl (Txt.join sp ws) = joinL [32] (ws.map tl) := by rw [join_eq, tl_join, tl_sp]
theorem join_split (z : Str) : Txt.join sp (Txt.split z sp) = z := ext_tl (by rw [tl_joinS, tl_split, join_spl, List.nil_append])
theorem split_joinS {ws : List Str} (hne : ws ≠ []) (h : ∀ w ∈ ws, 32 ∉ tl w) : Txt.split (Txt.join sp ws) sp = ws := split_join tl_sp sp_small hne h
/-! ### sizes -/
def tot (ws : List Str) : Nat := (ws.map fun w => w.cps.size + 1).sum
theorem tot_append (a b : List Str) : tot (a ++ b) = tot a + tot b := by unfold tot; rw [List.map_append, List.sum_append]
theorem tot_cons (w : Str) (b : List Str) : tot (w :: b) = w.cps.size + 1 + tot b := by unfold tot; rw [List.map_cons, List.sum_cons]
theorem tot_nil : tot [] = 0 := rfl
theorem tot_mem : ∀ {ws : List Str} {w : Str}, w ∈ ws → w.cps.size + 1 ≤ tot ws
  | x :: ws, w, h => by
    rw [tot_cons]
    rcases List.mem_cons.mp h with e | h
    · subst e; omega
    · have := tot_mem h; omega
theorem tot_take (n : Nat) (ws : List Str) : tot (ws.take n) + tot (ws.drop n) = tot ws := by rw [← tot_append, List.take_append_drop]
theorem tot_len (ws : List Str) : ws.length ≤ tot ws := by
  induction ws with
  | nil => exact Nat.le_refl _
  | cons w ws ih => rw [tot_cons, List.length_cons]; omega
theorem tot_reverse (ws : List Str) : tot ws.reverse = tot ws := by
  induction ws with
  | nil => rfl
  | cons w ws ih => rw [List.reverse_cons, tot_append, ih, tot_cons, tot_cons, tot_nil]; omega
theorem tot_sum (ws : List Str) : (ws.map (·.length)).sum + ws.length = tot ws := by
  induction ws with
  | nil => rfl
  | cons w ws ih =>
    rw [List.map_cons, List.sum_cons, tot_cons, List.length_cons, ← ih]
    show w.cps.size + _ + _ = _
    omega
theorem joinL_len : ∀ (ps : List (List Nat)), (joinL [32] ps).length + 1 ≤ (ps.map fun p => p.length + 1).sum + 1 ∧ (ps ≠ [] → (joinL [32] ps).length + 1 = (ps.map fun p => p.length + 1).sum)
  | [] => ⟨by simp [joinL], fun h => absurd rfl h⟩
  | [p] => ⟨by simp [joinL], fun _ => by simp [joinL]⟩
  | p :: q :: r => by
    have e := (joinL_len (q :: r)).2 (by simp)
    rw [joinL_cons (by simp), List.map_cons, List.sum_cons, ← e]
    simp only [List.length_append, List.length_cons, List.length_nil]
    omega
theorem size_tl (z : Str) : z.cps.size = (tl z).length := by simp [tl]
theorem tot_tl (ws : List Str) : tot ws = ((ws.map tl).map fun p => p.length + 1).sum := by
  unfold tot
  rw [List.map_map]
  congr 1
theorem join_size {ws : List Str} : (Txt.join sp ws).cps.size ≤ tot ws := by
  have h := (joinL_len (ws.map tl)).1
  rw [size_tl, tl_joinS, tot_tl]; omega
theorem split_tot (z : Str) : tot (Txt.split z sp) = z.cps.size + 1 := by
  have h := (joinL_len ((Txt.split z sp).map tl)).2 (fun e => split_ne z (List.map_eq_nil_iff.mp e))
  rw [tot_tl, ← h, ← tl_joinS, join_split, size_tl]
theorem mem_joinL : ∀ {ps : List (List Nat)} {c : Nat}, c ∈ joinL [32] ps → c = 32 ∨ ∃ p ∈ ps, c ∈ p
  | [], c, h => nomatch h
  | [p], c, h => .inr ⟨p, by simp, h⟩
  | p :: q :: r, c, h => by
    rw [joinL_cons (by simp)] at h
    rcases List.mem_append.mp h with h | h
    · exact .inr ⟨p, by simp, h⟩
    · rcases List.mem_append.mp h with h | h
      · exact .inl (by simpa using h)
      · rcases mem_joinL h with e | ⟨x, hx, hc⟩
        · exact .inl e
        · exact .inr ⟨x, List.mem_cons_of_mem _ hx, hc⟩
theorem joinL_mem : ∀ {ps : List (List Nat)} {p : List Nat} {c : Nat}, p ∈ ps → c ∈ p → c ∈ joinL [32] ps
  | [p], x, c, h, hc => by
    have e : x = p := by simpa using h
    subst e; exact hc
  | p :: q :: r, x, c, h, hc => by
    rw [joinL_cons (by simp)]
    rcases List.mem_cons.mp h with e | h
    · subst e; exact List.mem_append_left _ hc
    · exact List.mem_append_right _ (List.mem_append_right _ (joinL_mem h hc))
/-- words of the common signs, so long together -/
def Wd (m : Nat) (ws : List Str) : Prop := (∀ w ∈ ws, ∀ c ∈ w.cps.toList, c < 128) ∧ tot ws ≤ m
/-- a text of the common signs, so long -/
def Az (m : Nat) (z : Str) : Prop := z.cps.size ≤ m ∧ ∀ c ∈ z.cps.toList, c < 128
theorem wd_split {m : Nat} {z : Str} (h : Az m z) : Wd (m + 1) (Txt.split z sp) := by
  refine ⟨fun w hw c hc => ?_, by rw [split_tot]; have := h.1; omega⟩
  have e : tl z = joinL [32] ((Txt.split z sp).map tl) := by rw [← tl_joinS, join_split]
  exact h.2 c (show c ∈ tl z by rw [e]; exact joinL_mem (List.mem_map.mpr ⟨w, hw, rfl⟩) hc)
theorem az_join {m : Nat} {ws : List Str} (h : Wd m ws) : Az m (Txt.join sp ws) := by
  refine ⟨Nat.le_trans join_size h.2, fun c hc => ?_⟩
  have hc : c ∈ tl (Txt.join sp ws) := hc
  rw [tl_joinS] at hc
  rcases mem_joinL hc with e | ⟨p, hp, hc⟩
  · omega
  · obtain ⟨w, hw, rfl⟩ := List.mem_map.mp hp
    exact h.1 w hw c hc
theorem Wd.mem {m : Nat} {ws : List Str} {w : Str} (h : Wd m ws) (hw : w ∈ ws) : Az m w := ⟨by have := tot_mem hw; have := h.2; omega, h.1 w hw⟩
theorem Wd.app {m n : Nat} {ws vs : List Str} (h : Wd m ws) (k : Wd n vs) : Wd (m + n) (ws ++ vs) := ⟨fun w hw => by
  rcases List.mem_append.mp hw with q | q
  · exact h.1 w q
  · exact k.1 w q, by rw [tot_append]; have := h.2; have := k.2; omega⟩
theorem Wd.take {m : Nat} {ws : List Str} (h : Wd m ws) (n : Nat) : Wd m (ws.take n) := ⟨fun w hw => h.1 w (List.mem_of_mem_take hw), by have := tot_take n ws; have := h.2; omega⟩
theorem Wd.drop {m : Nat} {ws : List Str} (h : Wd m ws) (n : Nat) : Wd m (ws.drop n) := ⟨fun w hw => h.1 w (List.mem_of_mem_drop hw), by have := tot_take n ws; have := h.2; omega⟩
theorem Wd.rev {m : Nat} {ws : List Str} (h : Wd m ws) : Wd m ws.reverse := ⟨fun w hw => h.1 w (List.mem_reverse.mp hw), by rw [tot_reverse]; exact h.2⟩
theorem Wd.mono {m n : Nat} {ws : List Str} (h : Wd m ws) (e : m ≤ n) : Wd n ws := ⟨h.1, Nat.le_trans h.2 e⟩
theorem Wd.one {m : Nat} {w : Str} (h : Az m w) : Wd (m + 1) [w] := ⟨fun x hx => by
  have e : x = w := by simpa using hx
  subst e; exact h.2, by rw [tot_cons, tot_nil]; have := h.1; omega⟩
theorem Az.mono {m n : Nat} {z : Str} (h : Az m z) (e : m ≤ n) : Az n z := ⟨Nat.le_trans h.1 e, h.2⟩
theorem Az.app {m n : Nat} {x y : Str} (h : Az m x) (k : Az n y) : Az (m + n) (x ++ y) := by
  have e : (x ++ y).cps.toList = x.cps.toList ++ y.cps.toList := tl_append x y
  refine ⟨by rw [← Array.length_toList, e, List.length_append, Array.length_toList, Array.length_toList]; have := h.1; have := k.1; omega, fun c hc => ?_⟩
  rw [e] at hc
  rcases List.mem_append.mp hc with q | q
  · exact h.2 c q
  · exact k.2 c q
/-! ### figures -/
def canonL (l : List Nat) : Prop := l ≠ [] ∧ AllDigits l ∧ (l.head? = some 48 → l.length = 1)
theorem val_app (l : List Nat) (c : Nat) : digitsVal (l ++ [c]) = digitsVal l * 10 + (c - 48) := by
  unfold digitsVal
  rw [List.foldl_append]; rfl
theorem canon_num {l : List Nat} (h : canonL l) : numL (digitsVal l) = l := by
  obtain ⟨h1, h2, h3⟩ := h
  suffices H : ∀ (n : Nat) (l : List Nat), l.length = n → l ≠ [] → AllDigits l → (l.head? = some 48 → l.length = 1) → numL (digitsVal l) = l from H _ l rfl h1 h2 h3
  intro n
  induction n with
  | zero => intro l hl hne; exact absurd (List.length_eq_zero_iff.mp hl) hne
  | succ n ih =>
    intro l hl hne hd hh
    obtain ⟨l', c, rfl⟩ : ∃ l' c, l = l' ++ [c] := ⟨l.dropLast, l.getLast hne, (List.dropLast_concat_getLast hne).symm⟩
    have hc := hd c (by simp)
    rw [val_app]
    by_cases e : l' = []
    · subst e
      have e2 : digitsVal [] * 10 + (c - 48) = c - 48 := by show 0 * 10 + _ = _; omega
      rw [e2, numL_lt (by omega)]
      show [48 + (c - 48)] = [c]
      congr 1; omega
    · have hd' : AllDigits l' := fun d hd2 => hd d (List.mem_append_left _ hd2)
      have hl' : l'.length = n := by simpa using hl
      have h48 : l'.head? ≠ some 48 := fun w => by
        have := hh (by rw [head_app e]; exact w)
        have h0 : 0 < l'.length := List.length_pos_iff.mpr e
        simp only [List.length_append, List.length_cons, List.length_nil] at this
        omega
      have ih' := ih l' hl' e hd' fun w => absurd w h48
      have hv : 1 ≤ digitsVal l' := by
        rcases Nat.eq_zero_or_pos (digitsVal l') with z | z
        · rw [z] at ih'
          have : l' = [48] := by rw [← ih']; exact numL_lt (by decide)
          exact absurd (by rw [this]; rfl) h48
        · exact z
      rw [numL_step (by omega)]
      have d1 : (digitsVal l' * 10 + (c - 48)) / 10 = digitsVal l' := by omega
      have d2 : (digitsVal l' * 10 + (c - 48)) % 10 = c - 48 := by omega
      rw [d1, d2, ih']
      have d3 : 48 + (c - 48) = c := by omega
      rw [d3]
theorem num_head (n : Nat) : (numL n).head? = some 48 → (numL n).length = 1 := by
  induction n using Nat.strongRecOn with
  | ind n ih =>
    intro h
    by_cases hn : n < 10
    · rw [numL_lt hn]; rfl
    · rw [numL_step (by omega), head_app (numL_ne _)] at h
      have h1 := ih (n / 10) (by omega) h
      have h2 : numL (n / 10) = [48] := by
        match hh : numL (n / 10), h1, h with
        | [c], _, h => cases h; rfl
      have h3 := numL_val (n / 10)
      rw [h2] at h3
      have : digitsVal [48] = 0 := by decide
      omega
theorem num_canon (n : Nat) : canonL (numL n) := ⟨numL_ne n, numL_digits n, num_head n⟩
/-- the text of a whole number from 0 to 10 ** 6 -/
def isNum (w : Str) : Prop := canonL (tl w) ∧ digitsVal (tl w) ≤ 1000000
open Classical in
noncomputable def numD (w : Str) : D := if isNum w then .int ((digitsVal (tl w) : Nat) : Int) else .none
theorem isNum_len {w : Str} (h : isNum w) : w.cps.size ≤ 7 := by
  have h2 := numL_len (n := digitsVal (tl w)) (k := 7) (by decide) (by have := h.2; omega)
  rw [canon_num h.1] at h2
  rw [size_tl]; exact h2
theorem isNum_text {w : Str} (h : isNum w) : Str.ofString (toString ((digitsVal (tl w) : Nat) : Int)) = w := ext_tl (by rw [tl_num, canon_num h.1])
theorem num_isNum {n : Nat} (h : n ≤ 1000000) : isNum (Str.ofString (toString ((n : Nat) : Int))) ∧ digitsVal (tl (Str.ofString (toString ((n : Nat) : Int)))) = n := by
  have e := tl_num n
  unfold isNum
  rw [e, numL_val]
  exact ⟨⟨num_canon n, h⟩, rfl⟩
theorem numD_num {i : Int} (h : 0 ≤ i ∧ i ≤ 1000000) : numD (Str.ofString (toString i)) = .int i := by
  obtain ⟨n, rfl⟩ := Int.eq_ofNat_of_zero_le h.1
  obtain ⟨h1, h2⟩ := num_isNum (n := n) (by omega)
  unfold numD
  rw [if_pos h1, h2]
theorem az_num {i : Int} (h : 0 ≤ i ∧ i ≤ 1000000) : Az 7 (Str.ofString (toString i)) ∧ 32 ∉ tl (Str.ofString (toString i)) := by
  obtain ⟨n, rfl⟩ := Int.eq_ofNat_of_zero_le h.1
  have h1 := (num_isNum (n := n) (by omega)).1
  refine ⟨⟨isNum_len h1, fun c hc => by have := h1.1.2.1 c hc; omega⟩, fun w => by have := h1.1.2.1 32 w; omega⟩
end FK

set_option Elab.async false
set_option linter.all false
set_option maxRecDepth 100000
set_option maxHeartbeats 2000000
/-! FK 25: the walk of sorted(set(xs)), len(set(xs)). -/
namespace FK
open PySem PySem.Spec PyProof.Rows L2
open PySem.W (alike dataLt AllAlike Sortable dataLe EachIs)
/-- a value, its datum, its key -/
def Pt (K : Fg) (Hz : Hp) (ds : List D) (p : Value × NK) (b : V × D) : Prop := RelV b.1 p.1 ∧ Rep K Hz b.1 b.2 ∧ nk b.2 = some p.2 ∧ b.2 ∈ ds
theorem Pt.wide {K : Fg} {Hz : Hp} {ds es : List D} {p : Value × NK} {b : V × D} (h : Pt K Hz ds p b) (e : ∀ d ∈ ds, d ∈ es) : Pt K Hz es p b := ⟨h.1, h.2.1, h.2.2.1, e _ h.2.2.2⟩
theorem pts {K : Fg} {Hz : Hp} : ∀ {vs : List V} {its : List Value} {ds : List D}, Vals vs its → RepL K Hz vs ds → (∀ d ∈ ds, ∃ k, nk d = some k) →
    ∃ ks : List (Value × NK), its = ks.map (·.1) ∧ ks.length = ds.length ∧ (∀ p ∈ ks, ∃ b, Pt K Hz ds p b) ∧ ∀ d ∈ ds, ∃ p ∈ ks, nk d = some p.2
  | _, _, _, .nil, .nil, _ => ⟨[], rfl, rfl, fun p h => (by cases h), fun p h => (by cases h)⟩
  | v :: _, u :: _, d :: _, .cons r t, .cons q w, h => by
    obtain ⟨ks, e1, e2, e3, e4⟩ := pts t w fun d hd => h d (List.mem_cons_of_mem _ hd)
    obtain ⟨k, hk⟩ := h d List.mem_cons_self
    refine ⟨(u, k) :: ks, by rw [e1]; rfl, by simp [e2], fun p hp => ?_, fun e he => ?_⟩
    · rcases List.mem_cons.mp hp with z | z
      · rw [z]; exact ⟨(v, d), r, q, hk, List.mem_cons_self⟩
      · obtain ⟨b, hb⟩ := e3 p z
        exact ⟨b, hb.wide fun _ => List.mem_cons_of_mem _⟩
    · rcases List.mem_cons.mp he with z | z
      · rw [z]; exact ⟨_, List.mem_cons_self, hk⟩
      · obtain ⟨p, hp, x⟩ := e4 e z
        exact ⟨p, List.mem_cons_of_mem _ hp, x⟩
theorem picks {K : Fg} {Hz : Hp} {ds : List D} : ∀ {L : List (Value × NK)}, (∀ p ∈ L, ∃ b, Pt K Hz ds p b) →
    ∃ bs : List (V × D), EachIs (fun (u : Value) (b : V × D) => RelV b.1 u ∧ Rep K Hz b.1 b.2) (L.map (·.1)) bs ∧ (bs.map fun b => nk b.2) = L.map (fun p => some p.2) ∧ ∀ b ∈ bs, b.2 ∈ ds
  | [], _ => ⟨[], .nil, rfl, fun b h => (by cases h)⟩
  | p :: L, h => by
    obtain ⟨b, hb⟩ := h p List.mem_cons_self
    obtain ⟨bs, e1, e2, e3⟩ := picks fun q hq => h q (List.mem_cons_of_mem _ hq)
    refine ⟨b :: bs, .cons ⟨hb.1, hb.2.1⟩ e1, by rw [List.map_cons, List.map_cons, e2, hb.2.2.1], fun c hc => ?_⟩
    rcases List.mem_cons.mp hc with z | z
    · rw [z]; exact hb.2.2.2
    · exact e3 c z
theorem picks_perm {ds : List D} {L : List (Value × NK)} {bs : List (V × D)} (nd : (L.map (·.2)).Nodup) (e : (bs.map fun b => nk b.2) = L.map (fun p => some p.2)) (sub : ∀ b ∈ bs, b.2 ∈ ds) (all : ∀ d ∈ ds, ∃ p ∈ L, nk d = some p.2) :
    (bs.map (·.2)).Perm (once ds) := by
  have n1 : (bs.map fun b => nk b.2).Nodup := by
    rw [e]
    have z : (L.map fun p => some p.2) = (L.map (·.2)).map some := by rw [List.map_map]; rfl
    rw [z]
    exact List.pairwise_map.mpr (List.Pairwise.imp (fun {a b} h q => h (Option.some.inj q)) nd)
  have n2 : (bs.map (·.2)).Nodup := by
    have z : (bs.map fun b => nk b.2) = (bs.map (·.2)).map nk := by rw [List.map_map]; rfl
    rw [z] at n1
    exact List.Pairwise.of_map nk (fun a b h q => h (congrArg nk q)) n1
  refine (List.perm_ext_iff_of_nodup n2 (nodup_once ds)).mpr fun d => ?_
  rw [mem_once]
  constructor
  · intro h
    obtain ⟨b, hb, rfl⟩ := List.mem_map.mp h
    exact sub b hb
  · intro h
    obtain ⟨p, hp, hk⟩ := all d h
    have z : some p.2 ∈ bs.map fun b => nk b.2 := by rw [e]; exact List.mem_map.mpr ⟨p, hp, rfl⟩
    obtain ⟨b, hb, q⟩ := List.mem_map.mp z
    exact List.mem_map.mpr ⟨b, hb, nk_inj b.2 d p.2 q hk⟩
/-- all there is to know of the things that come into the set -/
theorem pts_ready {X : Cx} {pins : List (Addr × Obj)} {σ : L2.St} {Hz H : Hp} {s : Shared} {vs : List V} {its : List Value} {ds : List D} (I : Inv X pins σ H s) (hs : Same Hz H) (rv : Vals vs its) (ra : RepL X.K Hz vs ds) (ok : SetOk ds) :
    ∃ (tx : Bool) (ks : List (Value × NK)), its = ks.map (·.1) ∧ ks.length < lim tx ∧ (∀ p ∈ ks, KeyAt s.heap p) ∧ KindL tx ks ∧ (∀ p ∈ ks, ∃ b, Pt X.K Hz ds p b) ∧ ∀ d ∈ ds, ∃ p ∈ ks, nk d = some p.2 := by
  obtain ⟨good, kind⟩ := ok
  obtain ⟨ks, e1, e2, e3, e4⟩ := pts rv ra fun d hd => let ⟨k, hk, _⟩ := (good d hd).2; ⟨k, hk⟩
  have keys : ∀ p ∈ ks, KeyAt s.heap p := fun p hp => by
    obtain ⟨b, r1, r2, r3, r4⟩ := e3 p hp
    obtain ⟨as, r⟩ := rep_reads I hs r2 (good _ r4).1 r1
    obtain ⟨k, hk, dp⟩ := (good _ r4).2
    rw [r3] at hk
    cases hk
    exact ⟨nk_reads _ _ _ _ r r3, dp⟩
  rcases kind with ⟨kt, few⟩ | ⟨kt, few⟩
  · refine ⟨true, ks, e1, by show ks.length < _; simp only [lim, if_true, Bool.false_eq_true, if_false]; omega, keys, fun p hp => ?_, e3, e4⟩
    obtain ⟨b, r1, r2, r3, r4⟩ := e3 p hp
    obtain ⟨x, ex⟩ := kt _ r4
    rw [ex] at r2 r3
    cases hb : b.1 <;> rw [hb] at r2 r1 <;> cases r2
    obtain ⟨t, rt⟩ := r1
    simp only [nk, Option.some.injEq] at r3
    exact ⟨x, t, Prod.ext rt r3.symm⟩
  · refine ⟨false, ks, e1, by show ks.length < _; simp only [lim, if_true, Bool.false_eq_true, if_false]; omega, keys, fun p hp => ?_, e3, e4⟩
    obtain ⟨b, r1, r2, r3, r4⟩ := e3 p hp
    obtain ⟨es, ex⟩ := kt _ r4
    rw [ex] at r2 r3
    simp only [nk, Option.map_eq_some_iff] at r3
    obtain ⟨kk, _, r3⟩ := r3
    cases hb : b.1 <;> rw [hb] at r2 r1 <;> cases r2
    exact ⟨_, kk, Prod.ext r1 r3.symm⟩
end FK

set_option Elab.async false
set_option linter.all false
set_option maxRecDepth 100000
set_option maxHeartbeats 2000000
/-! FK 26: sorted of a set. -/
namespace FK
open PySem PySem.Spec PyProof.Rows L2
open PySem.W (alike dataLt AllAlike Sortable dataLe EachIs)
mutual
theorem nk_bare {h : Heap} : ∀ (d : D) (v : Value) (as : List Addr) (k : NK), Reads h v d as → nk d = some k → as = []
  | .int i, v, as, k, r, e => by cases r; rfl
  | .str x, v, as, k, r, e => by cases r; rfl
  | .tuple ds, v, as, k, r, e => by
    simp only [nk, Option.map_eq_some_iff] at e
    obtain ⟨ks, e, rfl⟩ := e
    cases r with
    | tuple h1 h2 h3 h4 => exact nks_bare ds _ _ ks h4 e
  | .none, v, as, k, r, e => by simp [nk] at e
  | .bool _, v, as, k, r, e => by simp [nk] at e
  | .list _, v, as, k, r, e => by simp [nk] at e
  | .dict _, v, as, k, r, e => by simp [nk] at e
theorem nks_bare {h : Heap} : ∀ (ds : List D) (vs : List Value) (as : List Addr) (ks : List NK), ReadsAll h vs ds as → nks ds = some ks → as = []
  | [], vs, as, ks, r, e => by cases r; rfl
  | d :: ds, vs, as, ks, r, e => by
    simp only [nks, Option.bind_eq_some_iff, Option.map_eq_some_iff] at e
    obtain ⟨k, e1, kr, e2, rfl⟩ := e
    cases r with
    | cons r1 r2 => rw [nk_bare d _ _ k r1 e1, nks_bare ds _ _ kr r2 e2]; rfl
end
section
variable {P : Program} {w : World} {A : Around} {E : Value → Shared → Prop} {s : Shared} {a : Addr} {L : List (Value × NK)} {tx : Bool} {K : Fg} {Hz : Hp} {ds : List D}
theorem sorted_of_set (S : SetK w tx s.heap a L) (hh : A.handled = none) (hu : A.units + 70 < cLine) (ok : RoseOk ds) (pt : ∀ p ∈ L, ∃ b, Pt K Hz ds p b) (all : ∀ d ∈ ds, ∃ p ∈ L, nk d = some p.2)
    (rd : ∀ (u : Value) (b : V × D), RelV b.1 u → Rep K Hz b.1 b.2 → b.2 ∈ ds → ∃ as, Reads s.heap u b.2 as) {Q : Value → Shared → Prop}
    (hQ : ∀ s' p (out : List Value) (c : Nat) (vs : List V), (∀ b o, s.heap.get? b = some o → s'.heap.get? b = some o) → s'.gens = s.gens → s'.os = s.os → s.heap.objs.size ≤ p → s'.heap.get? p = some (seqObj "list" out.toArray c) → out.length < 4000 →
      Vals vs out → RepL K Hz vs (rose ds) → Q (.ref p) s') :
    wpAny (model P w) A (call (.builtin "sorted") [.ref a]) Q E s := by
  obtain ⟨es, ep, t, S, _⟩ := S
  obtain ⟨o, ho, hex, hd⟩ := S.ob
  have hsz := rowsN_len S.rows
  have few := S.few
  refine Calls.call_function_entry kind_sorted plain_sorted entry_sorted (args_sorted1 _) ?_
  unfold Builtin.«sorted»
  refine wpAny_bind (m := checkCount "sorted" 1 1 _) (wpAny_pure ?_)
  refine wpAny_bind (collect_set (A := A.in1) hh ⟨o, ho, hex.1, hd⟩ S.fits (by unfold scanBound; omega) S.ris S.led fun s1 vs k1 hz g1 o1 pm => ?_)
  have em : es.toList.map (·.2) = L.map (·.1) := by rw [S.rows, rowsN, List.map_map]; rfl
  rw [em] at pm
  obtain ⟨L', rfl, pl⟩ := perm_map pm
  obtain ⟨bs, e1, e2, e3⟩ := picks (L := L') fun p hp => pt p (pl.mem_iff.mp hp)
  have pd : (bs.map (·.2)).Perm (once ds) := picks_perm ((pl.map (·.2)).nodup_iff.mpr S.nd) e2 e3 fun d hd => let ⟨p, hp, x⟩ := all d hd; ⟨p, pl.mem_iff.mpr hp, x⟩
  have hlb : bs.length = L.length := by
    have q := congrArg List.length e2
    rw [List.length_map, List.length_map, pl.length_eq] at q
    exact q
  obtain ⟨sok, al, so, un⟩ := ok
  have inn : ∀ d ∈ bs.map (·.2), d ∈ ds := fun d hd => let ⟨b, hb, q⟩ := List.mem_map.mp hd; q ▸ e3 b hb
  have al' : AllAlike (bs.map (·.2)) := fun d hd d' hd' => al d (inn d hd) d' (inn d' hd')
  have so' : Sortable (bs.map (·.2)) := so.imp (fun z d hd => z d (inn d hd)) (fun z d hd => z d (inn d hd))
  refine wpAny_bind (wpAny_newList ?_ (by rw [List.length_map, pl.length_eq, sizeLine_eq]; omega))
  have hoL : (s1.heap.push (seqObj "list" (L'.map (·.1)).toArray 0)).get? s1.heap.objs.size = some (seqObj "list" (L'.map (·.1)).toArray 0) := Heap.get?_push_size _ rfl
  have er : EachIs (fun (v : Value) (b : V × D) => ∃ as, Reads (s1.heap.push (seqObj "list" (L'.map (·.1)).toArray 0)) v b.2 as ∧ s1.heap.objs.size ∉ as) (L'.map (·.1)) bs := by
    have key : ∀ {its : List Value} {bs : List (V × D)}, EachIs (fun (u : Value) (b : V × D) => RelV b.1 u ∧ Rep K Hz b.1 b.2) its bs → (∀ b ∈ bs, b.2 ∈ ds) →
        EachIs (fun (v : Value) (b : V × D) => ∃ as, Reads (s1.heap.push (seqObj "list" (L'.map (·.1)).toArray 0)) v b.2 as ∧ s1.heap.objs.size ∉ as) its bs := by
      intro its bs h
      induction h with
      | nil => exact fun _ => .nil
      | cons h1 _ ih =>
        intro sub
        refine .cons ?_ (ih fun b hb => sub b (List.mem_cons_of_mem _ hb))
        have hb := sub _ List.mem_cons_self
        obtain ⟨as, r⟩ := rd _ _ h1.1 h1.2 hb
        obtain ⟨k, hk, _⟩ := (sok.1 _ hb).2
        refine ⟨as, PyProof.Rows.Reads.keeps (fun b o e => Heap.get?_push_of_some _ (k1 b o e)) r, ?_⟩
        rw [nk_bare _ _ _ _ r hk]
        exact fun z => by cases z
    exact key e1 e3
  refine wpAny_bind (wpAny_holding (PySem.W.list_sort_data (s := { s1 with heap := s1.heap.push (seqObj "list" (L'.map (·.1)).toArray 0) }) (enc := Prod.snd) hoL e1 er al' so' (by rw [hlb, sizeLine_eq]; omega) (fun b hb => ?_) fun out ho2 he => ?_))
  · have := SeqAt.depth_of_shaped ((sok.1 _ (e3 b hb)).1)
    simp only [Around.in1_units]
    omega
  · obtain ⟨x1, x2⟩ := back_of he
    rw [sort_snd, un _ pd] at x2
    obtain ⟨c, hc⟩ := sortedHeap_at (vs := L'.map (·.1)) (out := out.toArray) hoL
    refine wpAny_pure ⟨_, rfl, hQ _ s1.heap.objs.size out c _ (fun b u e => ?_) g1 o1 hz hc (by omega) x1 x2⟩
    have q := k1 b u e
    have lt := Heap.lt_size q
    show (sortedHeap (s1.heap.push (seqObj "list" (L'.map (·.1)).toArray 0)) s1.heap.objs.size (L'.map (·.1)) out.toArray).get? b = some u
    rw [sortedHeap_old (Nat.ne_of_lt lt) (by rw [size_push']; exact Nat.lt_succ_of_lt lt)]
    exact Heap.get?_push_of_some _ q
end
end FK

set_option Elab.async false
set_option linter.all false
set_option maxRecDepth 100000
set_option maxHeartbeats 2000000
/-! FK 27: sorted(set(x)), len(set(x)) as expressions. -/
namespace FK
open PySem PySem.Spec PyProof.Rows L2
open PySem.W (alike dataLt AllAlike Sortable dataLe EachIs)
theorem kept_inv {X : Cx} {pins : List (Addr × Obj)} {σ : L2.St} {H : Hp} {s : Shared} {h' : Heap} {tk : Nat} (I : Inv X pins σ H s) (k : ∀ b o, s.heap.get? b = some o → h'.get? b = some o) : Inv X pins σ H { s with heap := h', toks := tk } :=
  I.kept fun b o e => k b o e
section
variable {X : Cx} {T : Tx} {W : WX} {k : Nat} {l m : List Nat} {a : Expr} {fs : SA} {pos p p1 p2 : Pos}
theorem ss_ (C : Cxt X T W k l m) (h1 : X.mg "sorted" = none) (h2 : X.mg "set" = none) (g1 : Gl X "sorted") (g2 : Gl X "set") (ha : PA X [a] (tA T W fs))
    (hs : starEach [a] X.env = (false, eval a X.env) :: starEach [] X.env) (hs2 : starEach [.Call (.Name "set" p1) [a] [] p2] X.env = (false, eval (.Call (.Name "set" p1) [a] [] p2) X.env) :: starEach [] X.env) :
    PE X (.Call (.Name "sorted" p) [.Call (.Name "set" p1) [a] [] p2] [] pos) (tE T W (sApp gSortedSet fs)) := by
  refine ⟨fun pins s σ H Q I h => ?_⟩
  refine Call_ (ld_blt I g1 h1 boot_sorted (PyProof.Rows.callWith_builtin1 ?_ hs2 rfl))
  rw [hs2]
  show wpAny _ _ (spliced ((false, eval (.Call (.Name "set" p1) [a] [] p2) X.env) :: backTo pos (starEach [] X.env))) _ _ s
  refine Calls.spliced_cons ?_
  obtain ⟨Hz, ρ, F, z, h⟩ := h
  refine Call_ (ld_blt I g2 h2 boot_set (PyProof.Rows.callWith_type1 (thn (ha.run p2 pins s σ H _ I ⟨Hz, ρ, F, z, Aft.bnd (P := PL T.K) h⟩) fun us s1 ⟨vs, H1, I1, r1, Hz1, F1, ds, ρ1, z1, s1', rl, q1⟩ => ?_) hs rfl))
  have hu := C.units2
  have go : ∀ (es : List D) (xs : List V) (its : List Value), RoseOk es → Vals xs its → RepL T.K Hz1 xs es → ∀ (lcl : Addr), us = [Value.ref lcl] → (s1.heap.IsList lcl its.toArray ∨ s1.heap.IsTuple lcl its.toArray) →
      Aft T W Hz H F σ (PB T.K F) (.ok (.ow (.list (rose es))) ρ1) Q →
      wpAny (model X.prog X.w) X.A (call (.type "set") us) (fun v s₂ => wpAny (model X.prog X.w) X.A (spliced (backTo pos (starEach [] X.env))) (fun vs s₃ => wpAny (model X.prog X.w) X.A (call (.builtin "sorted") (v :: vs)) (EP X pins σ Q) X.xe s₃) X.xe s₂) X.xe s1 := fun es xs its ok rv ra lcl eu hl q1 => by
    subst eu
    rw [← C.hK] at ra
    obtain ⟨tx, ks, e1, e2, e3, e4, e5, e6⟩ := pts_ready I1 z1.sub rv ra ok.1
    have next : ∀ (h' : Heap) (tk : Nat) L, SetK X.w tx h' s1.heap.objs.size L → GotN ks ks.length L → (∀ b o, s1.heap.get? b = some o → h'.get? b = some o) → s1.heap.objs.size < h'.objs.size →
        wpAny (model X.prog X.w) X.A (spliced (backTo pos (starEach [] X.env))) (fun vs s₃ => wpAny (model X.prog X.w) X.A (call (.builtin "sorted") (Value.ref s1.heap.objs.size :: vs)) (EP X pins σ Q) X.xe s₃) X.xe { s1 with heap := h', toks := tk } := fun h' tk L S G kp big => by
      refine Calls.spliced_nil ?_
      have I2 : Inv X pins σ H1 { s1 with heap := h', toks := tk } := kept_inv I1 kp
      have tkall : ks.take ks.length = ks := List.take_length
      refine sorted_of_set (s := { s1 with heap := h', toks := tk }) S (I1.ok.hd C.calm) hu ok (K := X.K) (Hz := Hz1) (fun p hp => e5 p (by have := G.sub p hp; rwa [tkall] at this)) (fun d hd => ?_) (fun u b r2 r3 hb => rep_reads I2 z1.sub r3 (ok.1.1 _ hb).1 r2) fun s' pa out c vs' k2 g2 o2 lo at_ hz rv2 ra2 => ?_
      · obtain ⟨q, hq, x⟩ := e6 d hd
        obtain ⟨r, hr, y⟩ := List.mem_map.mp (G.all q (by rw [tkall]; exact hq))
        exact ⟨r, hr, by rw [x, y]⟩
      · have lo1 : s1.heap.objs.size ≤ pa := Nat.le_trans (Nat.le_of_lt big) lo
        have new : H1 pa = none := I1.hok.fresh lo1
        have hlen : vs'.length ≤ sizeLine := by rw [rv2.length, sizeLine_eq]; omega
        have J : Inv X pins σ (upd H1 pa (.lst vs')) { s1 with heap := s'.heap, gens := s'.gens, drawn := s'.drawn, toks := s'.toks } :=
          I1.call (ch := []) (Un.laid (fun b u e => k2 b u (kp b u e)) lo1 new) (I1.hok.laid (fun b u e => k2 b u (kp b u e)) lo1 ⟨hlen, out, c, rv2, at_⟩) (by rw [g2]; exact I1.bare) (fun _ z => nomatch z)
        have e : s' = { s1 with heap := s'.heap, gens := s'.gens, drawn := s'.drawn, toks := s'.toks } := by
          cases s'; cases s1; cases o2; rfl
        rw [e]
        refine ⟨.ref pa, _, J, rfl, (q1.fromB s1').made z1 ?_⟩
        rw [C.hK] at ra2
        exact .lst z1.sub new ra2
    have hit : its.toArray.toList = ks.map (·.1) := by simpa using e1
    rcases hl with hl | hl
    · exact set_of_list (tx := tx) ks (I1.ok.hd C.calm) hl hit e3 e4 e2 (by omega) next
    · exact set_of_tuple (tx := tx) ks (I1.ok.hd C.calm) hl hit e3 e4 e2 (by omega) next
  cases hg : gSortedSet ds with
  | none => rw [hg] at q1; cases q1
  | some bb =>
    rw [hg] at q1
    unfold gSortedSet at hg
    split at hg
    · split at hg
      · rename_i es ok
        cases hg
        obtain ⟨v, rfl, ra⟩ := RepL.one rl
        obtain ⟨u, rfl, rv⟩ := vals1 r1
        cases ra with
        | @lst la xs _ ha1 ka =>
          cases rv
          obtain ⟨its, w1, pl1, _⟩ := I1.list (by rw [C.hK]; exact sqL_same z1.sub ha1)
          exact go es xs its ok w1 ka _ rfl (.inl pl1.isList) q1
      · cases hg
    · split at hg
      · rename_i es ok
        cases hg
        obtain ⟨v, rfl, ra⟩ := RepL.one rl
        obtain ⟨u, rfl, rv⟩ := vals1 r1
        cases ra with
        | @tup la xs _ ha1 ka =>
          cases rv
          obtain ⟨its, w1, pl1, _⟩ := I1.tuple (by rw [C.hK]; exact seqT_same z1.sub ha1)
          exact go es xs its ok w1 ka _ rfl (.inr pl1) q1
      · cases hg
    · cases hg
end
end FK

set_option Elab.async false
set_option linter.all false
set_option maxRecDepth 100000
set_option maxHeartbeats 2000000
/-! FK 28: len(set(x)) as an expression. -/
namespace FK
open PySem PySem.Spec PyProof.Rows L2
section
variable {X : Cx} {T : Tx} {W : WX} {k : Nat} {l m : List Nat} {a : Expr} {fs : SA} {pos p p1 p2 : Pos}
theorem ns_ (C : Cxt X T W k l m) (h1 : X.mg "len" = none) (h2 : X.mg "set" = none) (g1 : Gl X "len") (g2 : Gl X "set") (ha : PA X [a] (tA T W fs))
    (hs : starEach [a] X.env = (false, eval a X.env) :: starEach [] X.env) (hs2 : starEach [.Call (.Name "set" p1) [a] [] p2] X.env = (false, eval (.Call (.Name "set" p1) [a] [] p2) X.env) :: starEach [] X.env) :
    PE X (.Call (.Name "len" p) [.Call (.Name "set" p1) [a] [] p2] [] pos) (tE T W (sApp gLenSet fs)) := by
  refine ⟨fun pins s σ H Q I h => ?_⟩
  refine Call_ (ld_blt I g1 h1 boot_len (PyProof.Rows.callWith_builtin1 ?_ hs2 rfl))
  rw [hs2]
  show wpAny _ _ (spliced ((false, eval (.Call (.Name "set" p1) [a] [] p2) X.env) :: backTo pos (starEach [] X.env))) _ _ s
  refine Calls.spliced_cons ?_
  obtain ⟨Hz, ρ, F, z, h⟩ := h
  refine Call_ (ld_blt I g2 h2 boot_set (PyProof.Rows.callWith_type1 (thn (ha.run p2 pins s σ H _ I ⟨Hz, ρ, F, z, Aft.bnd (P := PL T.K) h⟩) fun us s1 ⟨vs, H1, I1, r1, Hz1, F1, ds, ρ1, z1, s1', rl, q1⟩ => ?_) hs rfl))
  have hu := C.units2
  have go : ∀ (es : List D) (xs : List V) (its : List Value), SetOk es → Vals xs its → RepL T.K Hz1 xs es → ∀ (lcl : Addr), us = [Value.ref lcl] → (s1.heap.IsList lcl its.toArray ∨ s1.heap.IsTuple lcl its.toArray) →
      Aft T W Hz H F σ (PB T.K F) (.ok (.fr (.int (once es).length)) ρ1) Q →
      wpAny (model X.prog X.w) X.A (call (.type "set") us) (fun v s₂ => wpAny (model X.prog X.w) X.A (spliced (backTo pos (starEach [] X.env))) (fun vs s₃ => wpAny (model X.prog X.w) X.A (call (.builtin "len") (v :: vs)) (EP X pins σ Q) X.xe s₃) X.xe s₂) X.xe s1 := fun es xs its ok rv ra lcl eu hl q1 => by
    subst eu
    rw [← C.hK] at ra
    obtain ⟨tx, ks, e1, e2, e3, e4, e5, e6⟩ := pts_ready I1 z1.sub rv ra ok
    have next : ∀ (h' : Heap) (tk : Nat) L, SetK X.w tx h' s1.heap.objs.size L → GotN ks ks.length L → (∀ b o, s1.heap.get? b = some o → h'.get? b = some o) → s1.heap.objs.size < h'.objs.size →
        wpAny (model X.prog X.w) X.A (spliced (backTo pos (starEach [] X.env))) (fun vs s₃ => wpAny (model X.prog X.w) X.A (call (.builtin "len") (Value.ref s1.heap.objs.size :: vs)) (EP X pins σ Q) X.xe s₃) X.xe { s1 with heap := h', toks := tk } := fun h' tk L S G kp _ => by
      refine Calls.spliced_nil ?_
      have I2 : Inv X pins σ H1 { s1 with heap := h', toks := tk } := kept_inv I1 kp
      have tkall : ks.take ks.length = ks := List.take_length
      obtain ⟨bs, b1, b2, b3⟩ := picks (K := X.K) (Hz := Hz1) (ds := es) fun p hp => e5 p (by have := G.sub p hp; rwa [tkall] at this)
      obtain ⟨ees, ep, t, S, _⟩ := S
      obtain ⟨o, ho, hex, hd⟩ := S.ob
      have pd := picks_perm S.nd b2 b3 fun d hd => by
        obtain ⟨q, hq, x⟩ := e6 d hd
        obtain ⟨r, hr, y⟩ := List.mem_map.mp (G.all q (by rw [tkall]; exact hq))
        exact ⟨r, hr, by rw [x, y]⟩
      have hn : ees.size = (once es).length := by
        have q1 := congrArg List.length b2
        have q2 := pd.length_eq
        rw [List.length_map, List.length_map] at q1
        rw [List.length_map] at q2
        rw [rowsN_len S.rows]; omega
      have few := S.few
      have hsz := rowsN_len S.rows
      refine call_len_set ho hex hd S.fits (by omega) ⟨.int (once es).length, H1, I2.tok _, ⟨_, by rw [hn]⟩, (q1.fromB s1').made z1 ?_⟩
      exact .here z1.sub (.int _)
    have hit : its.toArray.toList = ks.map (·.1) := by simpa using e1
    rcases hl with hl | hl
    · exact set_of_list (tx := tx) ks (I1.ok.hd C.calm) hl hit e3 e4 e2 (by omega) next
    · exact set_of_tuple (tx := tx) ks (I1.ok.hd C.calm) hl hit e3 e4 e2 (by omega) next
  cases hg : gLenSet ds with
  | none => rw [hg] at q1; cases q1
  | some bb =>
    rw [hg] at q1
    unfold gLenSet at hg
    split at hg
    · split at hg
      · rename_i es ok
        cases hg
        obtain ⟨v, rfl, ra⟩ := RepL.one rl
        obtain ⟨u, rfl, rv⟩ := vals1 r1
        cases ra with
        | @lst la xs _ ha1 ka =>
          cases rv
          obtain ⟨its, w1, pl1, _⟩ := I1.list (by rw [C.hK]; exact sqL_same z1.sub ha1)
          exact go es xs its ok w1 ka _ rfl (.inl pl1.isList) q1
      · cases hg
    · split at hg
      · rename_i es ok
        cases hg
        obtain ⟨v, rfl, ra⟩ := RepL.one rl
        obtain ⟨u, rfl, rv⟩ := vals1 r1
        cases ra with
        | @tup la xs _ ha1 ka =>
          cases rv
          obtain ⟨its, w1, pl1, _⟩ := I1.tuple (by rw [C.hK]; exact seqT_same z1.sub ha1)
          exact go es xs its ok w1 ka _ rfl (.inr pl1) q1
      · cases hg
    · cases hg
end
end FK

set_option Elab.async false
set_option linter.all false
/-! FK 29: a statement that no law reaches. -/
namespace FK
open PySem PySem.Spec PyProof.Rows L2
def sBad : SS := fun _ => .bad
theorem s_bad {X : Cx} {T : Tx} {W : WX} {P : List Nat} {st : Stmt} : PS X st (tS T W P sBad) := ⟨fun _ _ _ _ _ _ h => by
  obtain ⟨_, _, _, _, h⟩ := h
  exact h.elim⟩
end FK

set_option Elab.async false
set_option linter.all false
set_option maxRecDepth 100000
set_option maxHeartbeats 2000000
/-! FK 30: {elt for .. in .. for .. in ..}, texts: the walk. -/
namespace FK
open PySem PySem.Spec PyProof.Rows L2
theorem cs2_turn0 (el t0 i0 t1 i1 : Expr) (f0 fb : List Expr) (scope : Scope) (po : Pos) (it acc : Value) (env : PySem.Env) :
    compTurn (.SetComp el [⟨t0, i0, f0, 0⟩, ⟨t1, i1, fb, 0⟩] scope po) 0 it acc env = (do
      standAt i0.pos
      match ← pyNext it with
      | none => pure (.done .next)
      | some v =>
        letOwnedTupleGo t0 it v
        assign t0 env v
        let mut ok := true
        for c in f0 do
          if ok then ok ← isTrue c env (eval c env)
        if ok then
          let x ← eval i1 env
          standAt i1.pos
          let x ← foldedSetIterable i1 env x
          let _ ← runOwn (.compStart (.SetComp el [⟨t0, i0, f0, 0⟩, ⟨t1, i1, fb, 0⟩] scope po) 1 (← holding [x] (pyIter x)) acc env) env
        again (.compLoop (.SetComp el [⟨t0, i0, f0, 0⟩, ⟨t1, i1, fb, 0⟩] scope po) 0 it acc env)) := by rfl
theorem cs2_turn1 (el t0 i0 t1 i1 : Expr) (f0 fb : List Expr) (scope : Scope) (po : Pos) (it acc : Value) (env : PySem.Env) :
    compTurn (.SetComp el [⟨t0, i0, f0, 0⟩, ⟨t1, i1, fb, 0⟩] scope po) 1 it acc env = (do
      standAt i1.pos
      match ← pyNext it with
      | none => pure (.done .next)
      | some v =>
        letOwnedTupleGo t1 it v
        assign t1 env v
        let mut ok := true
        for c in fb do
          if ok then ok ← isTrue c env (eval c env)
        if ok then
          (do let v ← eval el env; standAt el.pos; let _ ← call (.builtin "set.add") [acc, v])
        again (.compLoop (.SetComp el [⟨t0, i0, f0, 0⟩, ⟨t1, i1, fb, 0⟩] scope po) 1 it acc env)) := by rfl

section
variable {prog : Program} {w : World} {A : Around} {R : Result → Shared → Prop} {s : Shared} {el t0 i0 t1 i1 : Expr} {f0 fb : List Expr} {scope : Scope} {po : Pos} {it acc : Value} {env : PySem.Env}
/-- the lp of the first clause -/
theorem cs2_out (hs : ∀ x, foldedSetIterable i1 env x = pure x) (I : Nat → Shared → Prop)
    (turn : ∀ n s, I n s → wpAny (model prog w) A (pyNext it) (fun r s₁ => match r with
      | none => R (.ok .next) s₁
      | some v => wpAny (model prog w) A (letOwnedTupleGo t0 it v) (fun _ s₁' => wpAny (model prog w) A (assign t0 env v) (fun _ s₂ =>
          wpAny (model prog w) A (forIn f0 true fun c r => if r = true then do let ok ← isTrue c env (eval c env); pure (ForInStep.yield ok) else pure (ForInStep.yield r)) (fun ok s₃ =>
            if ok = true then wpAny (model prog w) A (eval i1 env) (fun x s₄ => wpAny (model prog w) A (pyIter x) (fun it1 s₅ =>
              codeAny (model prog w) A (.compStart (.SetComp el [⟨t0, i0, f0, 0⟩, ⟨t1, i1, fb, 0⟩] scope po) 1 it1 acc env) (fun r s' => match r with
                | .ok _ => ∃ m, m < n ∧ I m s'
                | .error _ => False) s₅) (notedBy (model prog w) A env fun e s' => R (.error e) s') s₄) (notedBy (model prog w) A env fun e s' => R (.error e) s') s₃
            else ∃ m, m < n ∧ I m s₃) (notedBy (model prog w) A env fun e s' => R (.error e) s') s₂) (notedBy (model prog w) A env fun e s' => R (.error e) s') s₁') (notedBy (model prog w) A env fun e s' => R (.error e) s') s₁) (notedBy (model prog w) A env fun e s' => R (.error e) s') s)
    (n : Nat) (h : I n s) :
    codeAny (model prog w) A (.compLoop (.SetComp el [⟨t0, i0, f0, 0⟩, ⟨t1, i1, fb, 0⟩] scope po) 0 it acc env) R s := by
  refine codeAny_loop rfl I (fun n s hI => ?_) n h
  show wpAny _ A ((compTurn (.SetComp el [⟨t0, i0, f0, 0⟩, ⟨t1, i1, fb, 0⟩] scope po) 0 it acc env).onRaise (fun x => do noteFrame x env; theTreesLotGoes x)) _ _ s
  refine wpAny_noted ?_
  rw [cs2_turn0]
  refine wpAny_bind (wpAny_standAt (wpAny_bind (wpAny_mono (turn n s hI) (fun r s₁ k₁ => ?_) fun _ _ h' => h')))
  cases r with
  | none => exact wpAny_pure k₁
  | some v =>
    refine wpAny_bind (wpAny_mono k₁ (fun _ s₁' k₁' => ?_) fun _ _ h' => h')
    refine wpAny_bind (wpAny_mono k₁' (fun _ s₂ k₂ => wpAny_bind (wpAny_mono k₂ (fun ok s₃ k₃ => ?_) fun _ _ h' => h')) fun _ _ h' => h')
    cases ok with
    | false => exact wpAny_pure ⟨rfl, k₃⟩
    | true =>
      refine wpAny_bind (wpAny_mono k₃ (fun x s₄ k₄ => ?_) fun _ _ h' => h')
      refine wpAny_bind (wpAny_standAt (wpAny_bind (wpAny_of_eq (hs x) (wpAny_bind (wpAny_holding (wpAny_mono k₄ (fun it1 s₅ k₅ => ?_) fun _ _ h' => h'))))))
      refine wpAny_bind (wpAny_runOwn ?_)
      rw [Around.mark_none]
      refine codeAny_mono k₅ fun r s' hr => ?_
      cases r with
      | ok f =>
        first
          | exact wpAny_pure ⟨rfl, hr⟩
          | exact wpAny_bind (wpAny_pure (wpAny_pure ⟨rfl, hr⟩))
      | error e => exact hr.elim
/-- the lp of the second -/
theorem cs2_in (I : Nat → Shared → Prop)
    (turn : ∀ n s, I n s → wpAny (model prog w) A (pyNext it) (fun r s₁ => match r with
      | none => R (.ok .next) s₁
      | some v => wpAny (model prog w) A (letOwnedTupleGo t1 it v) (fun _ s₁' => wpAny (model prog w) A (assign t1 env v) (fun _ s₂ =>
          wpAny (model prog w) A (forIn fb true fun c r => if r = true then do let ok ← isTrue c env (eval c env); pure (ForInStep.yield ok) else pure (ForInStep.yield r)) (fun ok s₃ =>
            if ok = true then wpAny (model prog w) A (eval el env) (fun x s₄ =>
              wpAny (model prog w) A (call (.builtin "set.add") [acc, x]) (fun _ s₅ => ∃ m, m < n ∧ I m s₅) (notedBy (model prog w) A env fun e s' => R (.error e) s') s₄) (notedBy (model prog w) A env fun e s' => R (.error e) s') s₃
            else ∃ m, m < n ∧ I m s₃) (notedBy (model prog w) A env fun e s' => R (.error e) s') s₂) (notedBy (model prog w) A env fun e s' => R (.error e) s') s₁') (notedBy (model prog w) A env fun e s' => R (.error e) s') s₁) (notedBy (model prog w) A env fun e s' => R (.error e) s') s)
    (n : Nat) (h : I n s) :
    codeAny (model prog w) A (.compLoop (.SetComp el [⟨t0, i0, f0, 0⟩, ⟨t1, i1, fb, 0⟩] scope po) 1 it acc env) R s := by
  refine codeAny_loop rfl I (fun n s hI => ?_) n h
  show wpAny _ A ((compTurn (.SetComp el [⟨t0, i0, f0, 0⟩, ⟨t1, i1, fb, 0⟩] scope po) 1 it acc env).onRaise (fun x => do noteFrame x env; theTreesLotGoes x)) _ _ s
  refine wpAny_noted ?_
  rw [cs2_turn1]
  refine wpAny_bind (wpAny_standAt (wpAny_bind (wpAny_mono (turn n s hI) (fun r s₁ k₁ => ?_) fun _ _ h' => h')))
  cases r with
  | none => exact wpAny_pure k₁
  | some v =>
    refine wpAny_bind (wpAny_mono k₁ (fun _ s₁' k₁' => ?_) fun _ _ h' => h')
    refine wpAny_bind (wpAny_mono k₁' (fun _ s₂ k₂ => wpAny_bind (wpAny_mono k₂ (fun ok s₃ k₃ => ?_) fun _ _ h' => h')) fun _ _ h' => h')
    cases ok with
    | false => exact wpAny_pure ⟨rfl, k₃⟩
    | true =>
      exact wpAny_bind (wpAny_bind (wpAny_mono k₃ (fun x s₄ k₄ => wpAny_bind (wpAny_standAt (wpAny_bind (wpAny_mono k₄ (fun _ s₅ k₅ => wpAny_pure (wpAny_pure ⟨rfl, k₅⟩)) fun _ _ h' => h')))) fun _ _ h' => h'))
/-- the second clause's start -/
theorem cs2_start (h0 : codeAny (model prog w) A (.compLoop (.SetComp el [⟨t0, i0, f0, 0⟩, ⟨t1, i1, fb, 0⟩] scope po) 1 it acc env) R s)
    (h : wpAny (model prog w) A (pyIter it) (fun it' s' => codeAny (model prog w) A (.compLoop (.SetComp el [⟨t0, i0, f0, 0⟩, ⟨t1, i1, fb, 0⟩] scope po) 1 it' acc env) R s')
      (notedBy (model prog w) A env fun x s' => R (.error x) s') s) :
    codeAny (model prog w) A (.compStart (.SetComp el [⟨t0, i0, f0, 0⟩, ⟨t1, i1, fb, 0⟩] scope po) 1 it acc env) R s := by
  refine codeAny_of_tree ?_
  show wpAny _ _ ((compStart (.SetComp el [⟨t0, i0, f0, 0⟩, ⟨t1, i1, fb, 0⟩] scope po) 1 it acc env).onRaise (fun x => do noteFrame x env; standAt theWindowsPlace)) _ _ s
  refine wpAny_notedAt ?_
  unfold compStart
  show wpAny _ _ (ask >>= _) _ _ s
  refine wpAny_bind (wpAny_askSetting (wpAny_ite ?_))
  split
  · first
      | exact wpAny_bind (wpAny_pure (wpAny_pure (And.intro rfl h0)))
      | exact wpAny_pure (And.intro rfl h0)
  · first
      | exact wpAny_bind (wpAny_rule (wpAny_bind (wpAny_standAt (wpAny_bind (wpAny_mono h (fun it' s' h' => wpAny_pure (And.intro rfl h')) fun _ _ x => x)))))
      | (refine wpAny_bind (wpAny_rule ?_); show wpAny _ _ (standAt i1.pos >>= _) _ _ s; exact wpAny_bind (wpAny_standAt (wpAny_bind (wpAny_mono h (fun it' s' h' => wpAny_pure (And.intro rfl h')) fun _ _ x => x))))
end

section
variable {P : Program} {w : World} {A : Around} {E : Value → Shared → Prop} {s : Shared} {a : Addr} {L : List (Value × NK)}
theorem add_text' (S : SetK w true s.heap a L) {x : Str} {k : Tok} (few : L.length + 1 < 4000) {Q : Bool → Shared → Prop}
    (hQ : ∀ b h' L', Heap.SameBut a s.heap h' → SetK w true h' a L' → (NestedKey.text x ∈ L.map (·.2) → L' = L) → (NestedKey.text x ∉ L.map (·.2) → L'.Perm ((Value.str x k, NestedKey.text x) :: L)) → Q b { s with heap := h' }) :
    wpAny (model P w) A (setAddHashed a (.str x k) ((PySem.strKind P w).hash x)) Q E s := by
  obtain ⟨es, ep, t, S, r⟩ := S
  have T : Txt L := r
  refine add_text S T few fun b h' L' es' ep' t' sb S' c1 c2 => hQ b h' L' sb ⟨es', ep', t', S', show Txt L' from fun p hp => ?_⟩ c1 c2
  rcases Classical.em (NestedKey.text x ∈ L.map (·.2)) with c | c
  · rw [c1 c] at hp; exact T p hp
  · rcases List.mem_cons.mp ((c2 c).mem_iff.mp hp) with e | z
    · exact ⟨x, k, e⟩
    · exact T p z
end

/-- the set at a has the texts xs, as they came -/
def TxtO (w : World) (a : Addr) (xs : List V) : HO := .ext fun h => ∃ L, SetK w true h a L ∧ (∀ x, NestedKey.text x ∈ L.map (·.2) ↔ V.str x ∈ xs) ∧ (∀ v ∈ xs, ∃ x, v = V.str x) ∧ L.length ≤ xs.length
def TxtIn (acc : List V) (y : V) : Prop := acc.length + 1 < 4000 ∧ ∃ x, y = V.str x
theorem txt_of {w : World} {h : Heap} {a : Addr} {L : List (Value × NK)} (S : SetK w true h a L) : Txt L := by
  obtain ⟨es, ep, t, _, r⟩ := S
  exact r
theorem txt_key {L : List (Value × NK)} (T : Txt L) {h : Heap} : ∀ p ∈ L, KeyAt h p := fun p hp => by
  obtain ⟨x, t, rfl⟩ := T p hp
  exact ⟨.text _ _, Nat.zero_le _⟩
theorem SetK.ex {w : World} {tx : Bool} {h : Heap} {a : Addr} {L : List (Value × NK)} (S : SetK w tx h a L) : ∃ o, h.get? a = some o := by
  obtain ⟨es, ep, t, S, _⟩ := S
  obtain ⟨o, ho, _⟩ := S.ob
  exact ⟨o, ho⟩
theorem txtO_ok {P : Program} {w : World} {H : Hp} {h : Heap} {a : Addr} {xs : List V} (R : ∃ L, SetK w true h a L ∧ (∀ x, NestedKey.text x ∈ L.map (·.2) ↔ V.str x ∈ xs) ∧ (∀ v ∈ xs, ∃ x, v = V.str x) ∧ L.length ≤ xs.length) : ObjOk P w H h a (TxtO w a xs) := by
  refine ⟨R, ?_, fun h1 h2 p k => ?_⟩
  · obtain ⟨L, S, _⟩ := R
    exact S.ex
  · obtain ⟨L, S, q⟩ := p
    exact ⟨L, S.up k (txt_key (txt_of S)), q⟩
theorem txtO_new {P : Program} {w : World} {H : Hp} {h : Heap} {a : Addr} (ho : h.get? a = some (fob w)) : ObjOk P w H h a (TxtO w a []) :=
  txtO_ok ⟨[], SetK.new ho, fun x => ⟨fun z => (by cases z), fun z => (by cases z)⟩, fun v z => (by cases z), Nat.le_refl _⟩
section
variable {X : Cx}
theorem txtO_add {pins : List (Addr × Obj)} {σ : L2.St} {H : Hp} {s : Shared} {E : Value → Shared → Prop} {D : Addr} {acc : List V} {y : V} {u : Value} {Q : Value → Shared → Prop} (I : Inv X pins σ H s) (hD : H D = some (TxtO X.w D acc)) (room : TxtIn acc y) (ry : RelV y u)
    (h : ∀ s', Inv X pins σ (upd H D (TxtO X.w D (acc ++ [y]))) s' → Q .none s') : wpAny (model X.prog X.w) X.A (call (.builtin "set.add") [.ref D, u]) Q E s := by
  obtain ⟨L, S, m1, m2, m3⟩ : ∃ L, SetK X.w true s.heap D L ∧ (∀ x, NestedKey.text x ∈ L.map (·.2) ↔ V.str x ∈ acc) ∧ (∀ v ∈ acc, ∃ x, v = V.str x) ∧ L.length ≤ acc.length := (I.hok D _ hD).1
  obtain ⟨few, x, rfl⟩ := room
  obtain ⟨t, rfl⟩ := ry
  have hT : s.TypeIs (.ref D) "set" := by
    obtain ⟨es, ep, tt, S, _⟩ := S
    obtain ⟨o, ho, hex, _⟩ := S.ob
    exact ⟨o, ho, hex.1⟩
  refine wpAny_call_entry F.slot_set_add hT F.entry_set_add ?_ (F.args_set_add_2 _ _)
  unfold Builtin.«set.add» Builtin.Frozenset.oneOther
  simp only [List.isEmpty_nil, bind_assoc]
  unfold Builtin.Frozenset.addrOf setAdd
  refine wpAny_bind (wpAny_pure ?_)
  try dsimp only
  refine wpAny_bind (wpAny_pure ?_)
  try dsimp only
  refine wpAny_bind (wpAny_holding (wpAny_bind ((PySem.strKind X.prog X.w).pyHash (strKind_is X.prog X.w x t) ?_)))
  refine add_text' S (s := { s with toks := s.toks + 1 }) (x := x) (k := t) (by omega) fun b h' L' sb S' c1 c2 => ?_
  refine wpAny_pure ⟨_, rfl, h _ (I.write (e := D) (t' := s.toks + 1) (by rw [hD]; trivial) (.inl rfl) (fun b u hb hu => (sb.2 b hb).trans hu) S'.ex (txtO_ok ⟨L', S', fun z => ?_, fun v hv => ?_, ?_⟩))⟩
  · rcases Classical.em (NestedKey.text x ∈ L.map (·.2)) with c | c
    · rw [c1 c, m1, List.mem_append, List.mem_singleton]
      refine ⟨.inl, fun q => q.elim id fun e => ?_⟩
      rw [e]; exact (m1 x).1 c
    · rw [((c2 c).map (·.2)).mem_iff, List.map_cons, List.mem_cons, m1, List.mem_append, List.mem_singleton]
      constructor
      · rintro (e | e)
        · right; injection e with e; rw [e]
        · exact .inl e
      · rintro (e | e)
        · exact .inr e
        · left; injection e with e; rw [e]
  · rcases List.mem_append.mp hv with z | z
    · exact m2 v z
    · exact ⟨x, List.mem_singleton.mp z⟩
  · rw [List.length_append]
    rcases Classical.em (NestedKey.text x ∈ L.map (·.2)) with c | c
    · rw [c1 c]; exact Nat.le_succ_of_le m3
    · rw [(c2 c).length_eq]; exact Nat.succ_le_succ m3
/-- a comprehension of two clauses, whatever it gathers its things in -/
def tA2 (Ho : Addr → List V → HO) (okp : List V → V → Prop) (wi : TI) (g : TG) (tt : TT) (wi1 : TI) (g1 : TG) (tt1 : TT) (te : TE) (vs vs1 : List Nat) : TE := fun σ H Q => wi σ H fun J H1 => ∀ D, H1 D = none → ∃ W : Nat → Nat → Hp → Prop,
  (∃ m, W 0 m (upd H1 D (Ho D []))) ∧ ∀ i m H, W i m H →
  (J.stop i H ∧ Q (.ref D) H) ∨ (J.go i H ∧ ∃ Nx : Hp → Prop, (∀ H', Nx H' → ∃ m', m' < m ∧ W (i + 1) m' H') ∧ ∀ x H', J.yld i H x H' → g x (wipe σ vs) H' fun σ2 H2 => wipe σ2 vs = wipe σ vs ∧ tt σ2 H2 fun b H3 =>
    if b = true then wi1 σ2 H3 fun J1 H4 => ∃ W1 : Nat → Nat → Hp → Prop, (∃ m, W1 0 m H4) ∧ ∀ j k H, W1 j k H →
      (J1.stop j H ∧ Nx H) ∨ (J1.go j H ∧ ∃ Nx1 : Hp → Prop, (∀ H', Nx1 H' → ∃ k', k' < k ∧ W1 (j + 1) k' H') ∧ ∀ x H', J1.yld j H x H' → g1 x (wipe σ2 vs1) H' fun σ3 H5 => wipe σ3 vs1 = wipe σ2 vs1 ∧ tt1 σ3 H5 fun b H6 =>
        if b = true then te σ3 H6 fun y H7 => ∃ acc, H7 D = some (Ho D acc) ∧ okp acc y ∧ Nx1 (upd H7 D (Ho D (acc ++ [y]))) else Nx1 H6)
    else Nx H3)
theorem sc2_core {pins : List (Addr × Obj)} {s : Shared} {σ : L2.St} {H : Hp} {Q : VK} {el ta ia tb ib : Expr} {fa fb : List Expr} {scope : Scope} {ow : List (Str × Nat)} {vs1 : List Nat} {po po' : Pos} {wi wi1 : TI} {g g1 : TG} {tt tt1 : TT} {te : TE} {use : Option (Value → Sem Unit)} {Qf : Value → Shared → Prop}
    (hc : X.calm = true) (hN : X.N.Nodup) (I : Inv X pins σ H s) (hi : PI X ta ia wi) (ok : BlkOk X.N X.env.scope scope ow) (hv : ∀ i ∈ vs1, i ∈ ow.map (·.2))
    (hg : ∀ (s : Shared) (H : Hp) (C : Addr) (cl : List (Str × Addr)) (fq : List Addr), PG (X.blk s H scope (compEnvC scope cl C X.env) fq) ta g) (ht : ∀ (s : Shared) (H : Hp) (C : Addr) (cl : List (Str × Addr)) (fq : List Addr), PTs (X.blk s H scope (compEnvC scope cl C X.env) fq) fa tt)
    (he : ∀ (s : Shared) (H : Hp) (C : Addr) (cl : List (Str × Addr)) (fq : List Addr), PE (X.blk s H scope (compEnvC scope cl C X.env) fq) el te) (hs : ∀ x, foldedSetIterable ia X.env x = pure x)
    (hi1 : ∀ (s : Shared) (H : Hp) (C : Addr) (cl : List (Str × Addr)) (fq : List Addr), PI (X.blk s H scope (compEnvC scope cl C X.env) fq) tb ib wi1)
    (hg1 : ∀ (s : Shared) (H : Hp) (C : Addr) (cl : List (Str × Addr)) (fq : List Addr), PG (X.blk s H scope (compEnvC scope cl C X.env) fq) tb g1)
    (ht1 : ∀ (s : Shared) (H : Hp) (C : Addr) (cl : List (Str × Addr)) (fq : List Addr), PTs (X.blk s H scope (compEnvC scope cl C X.env) fq) fb tt1)
    (hs1 : ∀ env x, foldedSetIterable ib env x = pure x)
    (h : tA2 (TxtO X.w) TxtIn wi g tt wi1 g1 tt1 te (ow.map (·.2)) vs1 σ H Q)
    (hRR : ∀ D C s' m Hh', Inv X pins σ Hh' s' → Q (.ref D) Hh' → s'.heap.Ns C m → FpOk X pins Hh' C → compPost (model X.prog X.w) X.A X.xe use Qf (.ref D) C (.ok .next) s') :
    wpAny (model X.prog X.w) X.A (comprehension (.SetComp el [⟨ta, ia, fa, 0⟩, ⟨tb, ib, fb, 0⟩] scope po) scope X.env po' (newSet (.type "set")) false (eval ia X.env) use) Qf X.xe s := by
  have hfree : ∀ y ∈ scope.names, y.2 = .free → ∃ c, X.env.cells.lookup y.1 = some c := fun y hy e => by
    rcases ok.free y hy e with k | k
    · exact I.ok.has _ (.inl k)
    · exact I.ok.has _ (.inr k)
  refine wpAny_comprehension_free (use := use) rfl hs (closure_ok hfree) ok.kind (fun y hy e => by rw [ok.uniq y hy, e])
    (thn (hi.run pins s σ H _ I h) fun xv sh1 hx => thn hx fun itv sh2 h2 => ?_)
  obtain ⟨it, fq, tn, J, Hp2, e, Iv2, T, sd2, f2, q⟩ := h2
  subst e
  refine PpSet.newSet_ok (newEnv_comp ?_)
  generalize hD : sh2.heap.objs.size = D
  have hDn : Hp2 D = none := Iv2.hok.fresh (Nat.le_of_eq hD)
  obtain ⟨W, ⟨m0, w0⟩, turn⟩ := q D hDn
  -- the new list
  generalize hs3 : ({ sh2 with heap := sh2.heap.push (fob X.w) } : Shared) = sh3
  have Iv3 : Inv X pins σ (upd Hp2 D (TxtO X.w D [])) sh3 := by
    rw [← hs3]
    refine Iv2.laid (t' := sh2.toks) (fun b o e => Heap.get?_push_of_some _ e) (Nat.le_of_eq hD) ?_
    rw [← hD]
    exact txtO_new (Heap.get?_push_size _ rfl)
  have h3 : sh3.heap = sh2.heap.push (fob X.w) := by rw [← hs3]
  have sz : ∀ b ∈ fq, b < sh2.heap.objs.size := fun b hb => by
    obtain ⟨o, e, _⟩ := T.obj _ _ sd2 b hb
    exact Heap.lt_size e
  have f3 : ∀ b ∈ fq, FpOk X pins (upd Hp2 D (TxtO X.w D [])) b ∧ b < sh3.heap.objs.size := fun b hb => by
    have hl0 := sz b hb
    refine ⟨⟨?_, (f2 b hb).2⟩, by rw [h3, Heap.size_push]; exact Nat.lt_succ_of_lt hl0⟩
    rw [upd_ne (by rw [← hD]; exact Nat.ne_of_lt hl0)]
    exact (f2 b hb).1
  have sd3 : tn 0 sh3.heap := T.keep _ _ _ sd2 fun b _ o e => by rw [h3]; exact Heap.get?_push_of_some _ e
  have Iv4 := block_start Iv3 ok hN f3
  have pg := hg sh3 (upd Hp2 D (TxtO X.w D [])) sh3.heap.objs.size (cellsFrom (sh3.heap.objs.size + 1) scope.names (cloFrom X.env.cells scope.names [])) fq
  have pt := ht sh3 (upd Hp2 D (TxtO X.w D [])) sh3.heap.objs.size (cellsFrom (sh3.heap.objs.size + 1) scope.names (cloFrom X.env.cells scope.names [])) fq
  have pe := he sh3 (upd Hp2 D (TxtO X.w D [])) sh3.heap.objs.size (cellsFrom (sh3.heap.objs.size + 1) scope.names (cloFrom X.env.cells scope.names [])) fq
  have pi1 := hi1 sh3 (upd Hp2 D (TxtO X.w D [])) sh3.heap.objs.size (cellsFrom (sh3.heap.objs.size + 1) scope.names (cloFrom X.env.cells scope.names [])) fq
  have pg1 := hg1 sh3 (upd Hp2 D (TxtO X.w D [])) sh3.heap.objs.size (cellsFrom (sh3.heap.objs.size + 1) scope.names (cloFrom X.env.cells scope.names [])) fq
  have pt1 := ht1 sh3 (upd Hp2 D (TxtO X.w D [])) sh3.heap.objs.size (cellsFrom (sh3.heap.objs.size + 1) scope.names (cloFrom X.env.cells scope.names [])) fq
  show codeAny _ _ (.compStart (.SetComp el [⟨ta, ia, fa, 0⟩, ⟨tb, ib, fb, 0⟩] scope po) 0 (.ref it) (.ref D) (compEnvC scope (cellsFrom (sh3.heap.objs.size + 1) scope.names (cloFrom X.env.cells scope.names [])) sh3.heap.objs.size X.env)) (compPost (model X.prog X.w) X.A X.xe use Qf (.ref D) sh3.heap.objs.size) { sh3 with heap := pushCells (sh3.heap.push { cls := .type "dict", data := .dict #[] }) scope.names }
  have nfp : ∀ b ∈ fq, (upd Hp2 D (TxtO X.w D [])) b = none := fun b hb => (f3 b hb).1.1
  generalize hce : compEnvC scope (cellsFrom (sh3.heap.objs.size + 1) scope.names (cloFrom X.env.cells scope.names [])) sh3.heap.objs.size X.env = ce at Iv4 pg pt pe pi1 pg1 pt1 ⊢
  have cL : ce.locals = sh3.heap.objs.size := by subst hce; rfl
  generalize hH3 : upd Hp2 D (TxtO X.w D []) = Hp3 at Iv3 Iv4 pg pt pe pi1 pg1 pt1 w0 nfp f3
  generalize hs4 : ({ sh3 with heap := pushCells (sh3.heap.push { cls := .type "dict", data := .dict #[] }) scope.names } : Shared) = sh4 at Iv4 ⊢
  have sd4 : tn 0 sh4.heap := T.keep _ _ _ sd3 fun b _ o e => by rw [← hs4]; exact pushCells_keeps _ _ _ _ (Heap.get?_push_of_some _ e)
  have sta : ∀ {σ' : L2.St} {Hh' : Hp} {s' : Shared}, Inv (X.blk sh3 Hp3 scope ce fq) [] σ' Hh' s' → (∀ b ∈ fq, Hh' b = none) → ∀ b ∈ fq, FpOk (X.blk sh3 Hp3 scope ce fq) [] Hh' b := fun {σ' Hh' s'} I' hn b hb =>
    ⟨hn b hb, (I'.ok.exf b hb).1, I'.ok.exfs b hb, .inl hb, fun x c e => (I'.ok.exf b hb).2 x c e, fun p hp => absurd (show p ∈ ([] : List (Addr × Obj)) ++ [] from hp) (by simp)⟩
  have lp : codeAny (model X.prog X.w) X.A (.compLoop (.SetComp el [⟨ta, ia, fa, 0⟩, ⟨tb, ib, fb, 0⟩] scope po) 0 (.ref it) (.ref D) ce) (compPost (model X.prog X.w) X.A X.xe use Qf (.ref D) sh3.heap.objs.size) sh4 := by
    refine cs2_out (hs1 ce) (fun n s' => ∃ i Hh', Inv (X.blk sh3 Hp3 scope ce fq) [] (wipe σ (ow.map (·.2))) Hh' s' ∧ tn i s'.heap ∧ (∀ b ∈ fq, Hh' b = none) ∧ W i n Hh') ?_ m0 ⟨0, Hp3, Iv4, sd4, nfp, w0⟩
    rintro n sh5 ⟨i, Hp5, Iv5, sd5, n5, w5⟩
    rcases turn i n Hp5 w5 with ⟨stop, qq⟩ | ⟨go, Nx, hNx, step⟩
    · have td := T.done (X.blk sh3 Hp3 scope ce fq) rfl rfl rfl hc i [] sh5 _ Hp5 (fun _ _ => False) Iv5 (sta Iv5 n5) sd5 stop
      refine thnF td fun r sh6 ⟨hr, Iv6⟩ => ?_
      subst hr
      -- back in the def's context
      have Iv7 : Inv X pins σ Hp5 sh6 := Iv3.call' (ch := fq) Iv6.os Iv6.base Iv6.hok Iv6.bare fun b hb => ⟨(f3 b hb).1.2.2.2.1, (f3 b hb).1.2.1, (f3 b hb).1.2.2.2.2.1, (f3 b hb).1.2.2.2.2.2⟩
      have nC : Hp5 sh3.heap.objs.size = none := by
        have z : Hp5 ce.locals = none := Iv6.free
        rw [cL] at z
        exact z
      obtain ⟨m, hn, _⟩ := Iv6.loc
      have hn : sh6.heap.Ns ce.locals m := hn
      rw [cL] at hn
      exact hRR D sh3.heap.objs.size sh6 m Hp5 Iv7 qq hn (Iv3.fpOk (Nat.le_refl _) nC)
    · have ti := T.item (X.blk sh3 Hp3 scope ce fq) rfl rfl rfl hc i [] sh5 _ Hp5 (fun _ _ => False) Iv5 (sta Iv5 n5) sd5 go
      refine thnF ti fun r sh6 ⟨u, hr, h6⟩ => ?_
      subst hr
      refine thnF h6 fun _ sh7 ⟨x, Hp7, Iv7, r7, y7, sd7, n7⟩ => ?_
      have Iv7' := Iv7.pinned (sta Iv7 n7) (T.obj _ _ sd7)
      refine thnF (pg.run _ sh7 _ Hp7 x u _ Iv7' r7 (step x Hp7 y7)) fun _ sh8 ⟨σ8, Hp8, Iv8, hw8, q8⟩ => ?_
      refine thnF (pt.run _ sh8 σ8 Hp8 _ Iv8 q8) fun b sh9 ⟨Hp9, Iv9, q9⟩ => ?_
      -- the turn's end, from any slots that know what the block knew at its start
      have fin : ∀ {σ9 : L2.St} {s' : Shared} {Hh' : Hp}, Inv (X.blk sh3 Hp3 scope ce fq) ([] ++ pinsAt fq sh7.heap) σ9 Hh' s' → (wipe σ (ow.map (·.2))).length = σ9.length → (∀ (j : Nat) v, (wipe σ (ow.map (·.2)))[j]? = some (some v) → σ9[j]? = some (some v)) → Nx Hh' →
          ∃ m, m < n ∧ ∃ i Hh', Inv (X.blk sh3 Hp3 scope ce fq) [] (wipe σ (ow.map (·.2))) Hh' s' ∧ tn i s'.heap ∧ (∀ b ∈ fq, Hh' b = none) ∧ W i m Hh' := fun {σ9 s' Hh'} I' hl hk nn => by
        obtain ⟨mm', hm, ww'⟩ := hNx Hh' nn
        have pn' : ∀ b ∈ fq, ∀ o, sh7.heap.get? b = some o → s'.heap.get? b = some o ∧ Hh' b = none := fun b hb o e =>
          let z := I'.pin (b, o) (List.mem_append_right _ (List.mem_append_right _ (mem_pinsAt hb e)))
          ⟨z.1, z.2.1⟩
        refine ⟨mm', hm, i + 1, Hh', (I'.unpinned (pins := [])).weak hl hk, T.keep _ _ _ sd7 fun b hb o e => (pn' b hb o e).1, fun b hb => ?_, ww'⟩
        obtain ⟨o, e, _⟩ := T.obj _ _ sd7 b hb
        exact (pn' b hb o e).2
      have hl8 : (wipe σ (ow.map (·.2))).length = σ8.length := by rw [← hw8, wipe_length]
      have hk8 : ∀ (j : Nat) v, (wipe σ (ow.map (·.2)))[j]? = some (some v) → σ8[j]? = some (some v) := fun j v e => by
        rw [← hw8] at e
        exact (wipe_some e).1
      have hk9 : ∀ (j : Nat) v, (wipe σ (ow.map (·.2)))[j]? = some (some v) → (wipe σ8 vs1)[j]? = some (some v) := fun j v e => by
        rw [← hw8] at e
        obtain ⟨e1, e2⟩ := wipe_some e
        rw [wipe_out fun z => e2 (hv j z)]
        exact e1
      cases b with
      | false =>
        simp only [Bool.false_eq_true, if_false] at q9 ⊢
        exact fin Iv9 hl8 hk8 q9
      | true =>
        simp only [if_true] at q9 ⊢
        refine thnF (pi1.run _ sh9 σ8 Hp9 _ Iv9 q9) fun xv sh10 hx => thnF hx fun itv sh11 h11 => ?_
        obtain ⟨it1, fq1, tn1, J1, Hp11, e1, Iv11, T1, sd11, f11, W1, ⟨m1, w1⟩, turn1⟩ := h11
        subst e1
        -- the inner lp
        have sta1 : ∀ {Hh' : Hp}, (∀ b ∈ fq1, Hh' b = none) → ∀ b ∈ fq1, FpOk (X.blk sh3 Hp3 scope ce fq) ([] ++ pinsAt fq sh7.heap) Hh' b := fun hn b hb => ⟨hn b hb, (f11 b hb).2⟩
        have lp1 : codeAny (model X.prog X.w) X.A (.compLoop (.SetComp el [⟨ta, ia, fa, 0⟩, ⟨tb, ib, fb, 0⟩] scope po) 1 (.ref it1) (.ref D) ce)
            (fun r s' => match r with
              | .ok _ => ∃ m, m < n ∧ ∃ i Hh', Inv (X.blk sh3 Hp3 scope ce fq) [] (wipe σ (ow.map (·.2))) Hh' s' ∧ tn i s'.heap ∧ (∀ b ∈ fq, Hh' b = none) ∧ W i m Hh'
              | .error _ => False) sh11 := by
          refine cs2_in (fun k s' => ∃ j Hh', Inv (X.blk sh3 Hp3 scope ce fq) ([] ++ pinsAt fq sh7.heap) (wipe σ8 vs1) Hh' s' ∧ tn1 j s'.heap ∧ (∀ b ∈ fq1, Hh' b = none) ∧ W1 j k Hh') ?_ m1 ⟨0, Hp11, Iv11.weak (wipe_length _ _) (fun j v e => (wipe_some e).1), sd11, fun b hb => (f11 b hb).1, w1⟩
          rintro k sh12 ⟨j, Hp12, Iv12, sd12, n12, w12⟩
          rcases turn1 j k Hp12 w12 with ⟨stop1, nx1⟩ | ⟨go1, Nx1, hNx1, step1⟩
          · refine thnF (T1.done (X.blk sh3 Hp3 scope ce fq) rfl rfl rfl hc j _ sh12 (wipe σ8 vs1) Hp12 (fun _ _ => False) Iv12 (sta1 n12) sd12 stop1) fun r sh13 ⟨hr, Iv13⟩ => ?_
            subst hr
            exact fin Iv13 (hl8.trans (wipe_length σ8 vs1).symm) hk9 nx1
          · refine thnF (T1.item (X.blk sh3 Hp3 scope ce fq) rfl rfl rfl hc j _ sh12 (wipe σ8 vs1) Hp12 (fun _ _ => False) Iv12 (sta1 n12) sd12 go1) fun r sh13 ⟨u1, hr, h13⟩ => ?_
            subst hr
            refine thnF h13 fun _ sh14 ⟨x1, Hp14, Iv14, r14, y14, sd14, n14⟩ => ?_
            have Iv14' := Iv14.pinned (sta1 n14) (T1.obj _ _ sd14)
            refine thnF (pg1.run _ sh14 (wipe σ8 vs1) Hp14 x1 u1 _ Iv14' r14 (step1 x1 Hp14 y14)) fun _ sh15 ⟨σ15, Hp15, Iv15, hw15, q15⟩ => ?_
            refine thnF (pt1.run _ sh15 σ15 Hp15 _ Iv15 q15) fun b1 sh16 ⟨Hp16, Iv16, q16⟩ => ?_
            have fin1 : ∀ {s' : Shared} {Hh' : Hp}, Inv (X.blk sh3 Hp3 scope ce fq) (([] ++ pinsAt fq sh7.heap) ++ pinsAt fq1 sh14.heap) σ15 Hh' s' → Nx1 Hh' → ∃ m, m < k ∧ ∃ j Hh', Inv (X.blk sh3 Hp3 scope ce fq) ([] ++ pinsAt fq sh7.heap) (wipe σ8 vs1) Hh' s' ∧ tn1 j s'.heap ∧ (∀ b ∈ fq1, Hh' b = none) ∧ W1 j m Hh' := fun {s' Hh'} I' nn => by
              obtain ⟨mm', hm, ww'⟩ := hNx1 Hh' nn
              have pn' : ∀ b ∈ fq1, ∀ o, sh14.heap.get? b = some o → s'.heap.get? b = some o ∧ Hh' b = none := fun b hb o e =>
                let z := I'.pin (b, o) (List.mem_append_right _ (List.mem_append_right _ (mem_pinsAt hb e)))
                ⟨z.1, z.2.1⟩
              refine ⟨mm', hm, j + 1, Hh', I'.unpinned.weak (by rw [← hw15, wipe_length]) (fun j v e => by rw [← hw15] at e; exact (wipe_some e).1), T1.keep _ _ _ sd14 fun b hb o e => (pn' b hb o e).1, fun b hb => ?_, ww'⟩
              obtain ⟨o, e, _⟩ := T1.obj _ _ sd14 b hb
              exact (pn' b hb o e).2
            cases b1 with
            | false =>
              simp only [Bool.false_eq_true, if_false] at q16 ⊢
              exact fin1 Iv16 q16
            | true =>
              simp only [if_true] at q16 ⊢
              refine thnF (pe.run _ sh16 σ15 Hp16 _ Iv16 q16) fun z sh17 ⟨yv, Hp17, Iv17, r17, acc, hD17, hz17, nn⟩ => ?_
              exact txtO_add (X := X.blk sh3 Hp3 scope ce fq) Iv17 hD17 hz17 r17 fun sh18 Iv18 => fin1 Iv18 nn
        exact cs2_start lp1 (T1.self X.A 0 _ _ _ sd11 lp1)
  exact PpSet.codeAny_compStart_set lp (T.self X.A 0 _ _ _ sd4 lp)
theorem pe_sc2 {el ta ia tb ib : Expr} {fa fb : List Expr} {scope : Scope} {ow : List (Str × Nat)} {vs1 : List Nat} {po : Pos} {wi wi1 : TI} {g g1 : TG} {tt tt1 : TT} {te : TE} (hc : X.calm = true) (hN : X.N.Nodup) (hi : PI X ta ia wi) (ok : BlkOk X.N X.env.scope scope ow) (hv : ∀ i ∈ vs1, i ∈ ow.map (·.2))
    (hg : ∀ (s : Shared) (H : Hp) (C : Addr) (cl : List (Str × Addr)) (fq : List Addr), PG (X.blk s H scope (compEnvC scope cl C X.env) fq) ta g) (ht : ∀ (s : Shared) (H : Hp) (C : Addr) (cl : List (Str × Addr)) (fq : List Addr), PTs (X.blk s H scope (compEnvC scope cl C X.env) fq) fa tt)
    (hi1 : ∀ (s : Shared) (H : Hp) (C : Addr) (cl : List (Str × Addr)) (fq : List Addr), PI (X.blk s H scope (compEnvC scope cl C X.env) fq) tb ib wi1)
    (hg1 : ∀ (s : Shared) (H : Hp) (C : Addr) (cl : List (Str × Addr)) (fq : List Addr), PG (X.blk s H scope (compEnvC scope cl C X.env) fq) tb g1) (ht1 : ∀ (s : Shared) (H : Hp) (C : Addr) (cl : List (Str × Addr)) (fq : List Addr), PTs (X.blk s H scope (compEnvC scope cl C X.env) fq) fb tt1)
    (he : ∀ (s : Shared) (H : Hp) (C : Addr) (cl : List (Str × Addr)) (fq : List Addr), PE (X.blk s H scope (compEnvC scope cl C X.env) fq) el te) (hs : ∀ x, foldedSetIterable ia X.env x = pure x) (hs1 : ∀ env x, foldedSetIterable ib env x = pure x) :
    PE X (.SetComp el [⟨ta, ia, fa, 0⟩, ⟨tb, ib, fb, 0⟩] scope po) (tA2 (TxtO X.w) TxtIn wi g tt wi1 g1 tt1 te (ow.map (·.2)) vs1) := by
  refine ⟨fun pins s σ H Q I h => ?_⟩
  rw [PpSet.eval_SetComp]
  refine sc2_core hc hN I hi ok hv hg ht he hs hi1 hg1 ht1 hs1 h fun D C s' m Hh' I' q hn f => ⟨m, hn, fun h'' sb => ?_⟩
  obtain ⟨g0, g1, g2, g3, g4, g5⟩ := f
  exact ⟨.ref D, Hh', I'.turned (t' := s'.toks) (fun b o hb e => (sb.2 b hb).trans e) g0 g1 g3 g4 g5, rfl, q⟩
end
end FK

set_option Elab.async false
set_option linter.all false
set_option maxRecDepth 100000
set_option maxHeartbeats 2000000
/-! FK 31: comprehensions of two clauses. -/
namespace FK
open PySem PySem.Spec PyProof.Rows L2
/-- the turns of the inner clause: what is gathered -/
def lcI (vs : List Nat) (g : SG) (ct : STs) (fe : SE) (okD : List D → D → Bool) : List D → List D → Env → Option (List D × Env)
  | [], acc, ρ => some (acc, ρ)
  | d :: ds, acc, ρ => match g d (wipeB vs ρ) with
    | none => none
    | some ρ2 => match ct ρ2 with
      | .ok false ρ3 => lcI vs g ct fe okD ds acc (keepE vs ρ ρ3)
      | .ok true ρ3 => (match fe ρ3 with
        | .ok b ρ4 => (match frz b with
          | some y => if okD acc y = true then lcI vs g ct fe okD ds (acc ++ [y]) (keepE vs ρ ρ4) else none
          | none => none)
        | _ => none)
      | _ => none
/-- those of the outer one -/
def lcO (vs : List Nat) (g : SG) (ct : STs) (it1 : SI) (inn : List D → List D → Env → Option (List D × Env)) : List D → List D → Env → Option (List D × Env)
  | [], acc, ρ => some (acc, ρ)
  | d :: ds, acc, ρ => match g d (wipeB vs ρ) with
    | none => none
    | some ρ2 => match ct ρ2 with
      | .ok false ρ3 => lcO vs g ct it1 inn ds acc (keepE vs ρ ρ3)
      | .ok true ρ3 => (match it1 ρ3 with
        | .ok ds1 ρ4 => (match inn ds1 acc ρ4 with
          | some (acc', ρ5) => lcO vs g ct it1 inn ds acc' (keepE vs ρ ρ5)
          | none => none)
        | _ => none)
      | _ => none
theorem walk_it {J : It} {n : Nat} {G : Hp → Prop} {Y : Nat → Hp → V → Hp → Prop} (w : Walk J n G Y) {H0 : Hp} {Qd : Hp → Prop} {body : (Hp → Prop) → V → Hp → Prop} (Pv : Nat → Hp → Prop) (h0 : Pv 0 H0) (hG : ∀ i H, i ≤ n → Pv i H → G H)
    (hs : ∀ i x H H', i < n → Pv i H → Y i H x H' → body (Pv (i + 1)) x H') (hd : ∀ H, Pv n H → Qd H) :
    ∃ Wx : Nat → Nat → Hp → Prop, (∃ m, Wx 0 m H0) ∧ ∀ i m H, Wx i m H → (J.stop i H ∧ Qd H) ∨ (J.go i H ∧ ∃ Nx : Hp → Prop, (∀ H', Nx H' → ∃ m', m' < m ∧ Wx (i + 1) m' H') ∧ ∀ x H', J.yld i H x H' → body Nx x H') := by
  refine ⟨fun i m H => i ≤ n ∧ m = n - i ∧ Pv i H, ⟨n, Nat.zero_le _, by simp, h0⟩, ?_⟩
  rintro i m H ⟨hi, rfl, p⟩
  have q := hG i H hi p
  rcases Nat.lt_or_ge i n with hlt | hge
  · refine .inr ⟨w.goes i H hlt q, Pv (i + 1), fun H' p' => ⟨n - (i + 1), by omega, hlt, rfl, p'⟩, fun x H' y => ?_⟩
    exact hs i x H H' hlt p (w.yields i H x H' hlt q y)
  · obtain rfl : i = n := by omega
    exact .inl ⟨w.stops H q, hd H p⟩
section
variable {K : Fg} {Hz H Hz1 H1 : Hp} {F F1 : Nat → List Addr} {σ : L2.St} {ρ : Env} {a : Addr}
theorem Zone.drop (z : Zone K Hz H σ ρ F) (h : Hz a = none) (n : ¬ Own F a) : Zone K Hz (drp H a) σ ρ F :=
  z.keep (.refl _) (fun b x e => by rw [drp_ne (ne_of_none e h)]; exact z.sub b x e) (fun b hb => drp_ne fun w => n (w ▸ hb)) fun b hb => z.notIn hb
theorem Step.dropL (s : Step Hz H F Hz1 H1 F1) : Step Hz (drp H a) F Hz1 H1 F1 where
  z := s.z
  fr := fun b o h n => s.fr b o (drp_le b o h) n
  nz := fun b h => (s.nz b h).imp id fun q => q.imp (fun e => by
    by_cases hb : b = a
    · subst hb; exact drp_same
    · rw [drp_ne hb]; exact e) id
  no := fun b h => (s.no b h).imp (fun e => by
    by_cases hb : b = a
    · subst hb; exact drp_same
    · rw [drp_ne hb]; exact e) id
  dom := fun b h => by
    obtain ⟨o, e⟩ := ex_of_ne h
    exact s.dom b (ne_none_of_some (drp_le b o e))
theorem Step.dropR (s : Step Hz H F Hz1 H1 F1) (h : H a = none) : Step Hz H F Hz1 (drp H1 a) F1 where
  z := s.z
  fr := fun b o e n => by rw [drp_ne (ne_of_none e h)]; exact s.fr b o e n
  nz := s.nz
  no := s.no
  dom := fun b e => by
    obtain ⟨o, e2⟩ := ex_of_ne e
    rw [drp_ne (ne_of_none e2 h)]; exact s.dom b e
theorem Step.put {o : HO} (s : Step Hz H F Hz1 H1 F1) (h : H a = none) : Step Hz H F Hz1 (upd H1 a o) F1 where
  z := s.z
  fr := fun b x e n => by rw [upd_ne (ne_of_none e h)]; exact s.fr b x e n
  nz := s.nz
  no := s.no
  dom := fun b e => by
    obtain ⟨x, e2⟩ := ex_of_ne e
    rw [upd_ne (ne_of_none e2 h)]; exact s.dom b e
theorem Zone.put {o : HO} (z : Zone K Hz H σ ρ F) (h : Hz a = none) (n : ¬ Own F a) : Zone K Hz (upd H a o) σ ρ F :=
  z.keep (.refl _) (fun b x e => by rw [upd_ne (ne_of_none e h)]; exact z.sub b x e) (fun b hb => upd_ne fun w => n (w ▸ hb)) fun b hb => z.notIn hb
end
/-- what stands within a gathering: at D what came so far -/
def Gat (T : Tx) (Ho : Addr → List V → HO) (Da : Addr) (Hzb Hb : Hp) (Fb : Nat → List Addr) (σ : L2.St) (acc : List D) (ρ : Env) (H : Hp) : Prop :=
  ∃ Hz F accV, Zone T.K Hz H σ ρ F ∧ Step Hzb Hb Fb Hz H F ∧ H Da = some (Ho Da accV) ∧ RepL T.K Hz accV acc ∧ Hz Da = none ∧ ¬ Own F Da
section
variable {T : Tx} {Ho : Addr → List V → HO} {okp : List V → V → Prop} {okD : List D → D → Bool} {Da : Addr} {Hzb Hb : Hp} {Fb : Nat → List Addr} {σ : L2.St}
/-- D stands through a step -/
theorem da_stay {Hz H Hz1 H1 : Hp} {F F1 : Nat → List Addr} {o : HO} (h : H Da = some o) (hz : Hz Da = none) (n : ¬ Own F Da) (s : Step Hz H F Hz1 H1 F1) : H1 Da = some o ∧ Hz1 Da = none ∧ ¬ Own F1 Da := by
  refine ⟨s.fr Da o h n, ?_, fun w => ?_⟩
  · cases e : Hz1 Da with
    | none => rfl
    | some q =>
      rcases s.nz Da (ne_none_of_some e) with w | w | w
      · exact absurd hz w
      · rw [h] at w; cases w
      · exact absurd w n
  · rcases s.no Da w with w | w
    · rw [h] at w; cases w
    · exact n w
theorem own_keep {vs : List Nat} {F F1 : Nat → List Addr} {a : Addr} (n : ¬ Own F a) (n1 : ¬ Own F1 a) : ¬ Own (keepF vs F F1) a := fun ⟨j, hj⟩ => by
  unfold keepF at hj
  split at hj
  · exact n ⟨j, hj⟩
  · exact n1 ⟨j, hj⟩
theorem own_wiped {vs : List Nat} {F : Nat → List Addr} {a : Addr} (n : ¬ Own F a) : ¬ Own (wipeF vs F) a := fun w => by
  obtain ⟨j, _, w⟩ := own_wipe w
  exact n ⟨j, w⟩
theorem drop_cons {ds : List D} {i : Nat} {d : D} (hi : i < ds.length) (hd : ds[i]? = some d) : ds.drop i = d :: ds.drop (i + 1) := by
  rw [List.drop_eq_getElem_cons hi]
  rw [List.getElem?_eq_getElem hi] at hd
  cases hd; rfl
theorem in_turns {vs L : List Nat} (hL : ∀ i ∈ L, i ∈ vs) {g : SG} {ct : STs} {fe : SE} (hok : ∀ Hz accV accD yv y, RepL T.K Hz accV accD → Rep T.K Hz yv y → okD accD y = true → okp accV yv) (hD : Hb Da = none) {ds : List D} {J : It} (it : IterOk T.K Hzb ds J)
    {acc0 : List D} {ρ0 : Env} {H0 : Hp} (st0 : Gat T Ho Da Hzb Hb Fb σ acc0 ρ0 H0) {Nx : Hp → Prop} (hr : ∃ acc ρ, lcI vs g ct fe okD ds acc0 ρ0 = some (acc, ρ) ∧ ∀ H', Gat T Ho Da Hzb Hb Fb σ acc ρ H' → Nx H') :
    ∃ W1 : Nat → Nat → Hp → Prop, (∃ m, W1 0 m H0) ∧ ∀ j k H, W1 j k H → (J.stop j H ∧ Nx H) ∨ (J.go j H ∧ ∃ Nx1 : Hp → Prop, (∀ H', Nx1 H' → ∃ k', k' < k ∧ W1 (j + 1) k' H') ∧
      ∀ x H', J.yld j H x H' → tG T L g x (wipe σ vs) H' fun σ3 H5 => wipe σ3 vs = wipe σ vs ∧ tT T W0 ct σ3 H5 fun b H6 => if b = true then tE T W0 fe σ3 H6 fun y H7 => ∃ acc, H7 Da = some (Ho Da acc) ∧ okp acc y ∧ Nx1 (upd H7 Da (Ho Da (acc ++ [y]))) else Nx1 H6) := by
  obtain ⟨G, Y, wk, hG, hY⟩ := it
  refine walk_it wk (body := fun Nx1 x H' => tG T L g x (wipe σ vs) H' fun σ3 H5 => wipe σ3 vs = wipe σ vs ∧ tT T W0 ct σ3 H5 fun b H6 => if b = true then tE T W0 fe σ3 H6 fun y H7 => ∃ acc, H7 Da = some (Ho Da acc) ∧ okp acc y ∧ Nx1 (upd H7 Da (Ho Da (acc ++ [y]))) else Nx1 H6)
    (fun i H' => ∃ accD ρ', Gat T Ho Da Hzb Hb Fb σ accD ρ' H' ∧ ∃ acc ρ, lcI vs g ct fe okD (ds.drop i) accD ρ' = some (acc, ρ) ∧ ∀ H', Gat T Ho Da Hzb Hb Fb σ acc ρ H' → Nx H')
    ⟨acc0, ρ0, st0, hr⟩ (fun i H' _ ⟨accD, ρ', ⟨Hz', F', accV, z', sm, _⟩, _⟩ => hG H' (sm.z.trans z'.sub)) (fun i x H' H'' hi ⟨accD, ρ', ⟨Hz', F', accV, z', sm, k1, k2, k3, k4⟩, q⟩ y => ?_) fun H' ⟨accD, ρ', st, q⟩ => ?_
  · obtain ⟨d, hd, n⟩ := hY i H' x H'' Hz' hi y sm.z z'.sub
    obtain ⟨Hz2, z2, s2, pb⟩ := new_zone z' n
    obtain ⟨fp, m, _⟩ := pb
    rw [drop_cons hi hd] at q
    unfold lcI at q
    have a0 := da_stay k1 k3 k4 s2
    have a1 := own_wiped (vs := vs) a0.2.2
    refine ⟨Hz2, _, _, d, z2.wipe (vs := vs), m.2, ?_⟩
    cases eg : g d (wipeB vs ρ') with
    | none => rw [eg] at q; obtain ⟨_, _, q, _⟩ := q; cases q
    | some ρ2 =>
      rw [eg] at q
      intro σ3 Hz3 H3 F3 z3 s3 c3
      refine ⟨wipe_chg hL c3, Hz3, ρ2, F3, z3, ?_⟩
      have back : ∀ {Hz4 H4 : Hp} {F4 : Nat → List Addr} {ρ4 : Env}, Zone T.K Hz4 H4 σ3 ρ4 F4 → Step Hz2 H'' (wipeF vs F') Hz4 H4 F4 → Zone T.K Hz4 H4 σ (keepE vs ρ' ρ4) (keepF vs F' F4) ∧ Step Hzb Hb Fb Hz4 H4 (keepF vs F' F4) ∧ ¬ Own (keepF vs F' F4) Da := fun {Hz4 H4 F4 ρ4} z4 s4 => by
        obtain ⟨b1, b2⟩ := z2.unwipe z4 s4 (c3.mono hL)
        exact ⟨b1, sm.trans (s2.trans b2), own_keep k4 (da_stay a0.1 a0.2.1 a1 s4).2.2⟩
      cases ec : ct ρ2 with
      | bad => simp only [ec] at q; obtain ⟨_, _, q, _⟩ := q; cases q
      | exc x ρ3 => simp only [ec] at q; obtain ⟨_, _, q, _⟩ := q; cases q
      | ok b ρ3 =>
        intro bb Hz4 H4 F4 z4 s4 eb
        cases eb
        have s34 := s3.trans s4
        cases b with
        | false =>
          simp only [ec] at q
          obtain ⟨b1, b2, b3⟩ := back z4 s34
          obtain ⟨c1, c2, _⟩ := da_stay a0.1 a0.2.1 a1 s34
          exact iteF ⟨accD, _, ⟨Hz4, _, accV, b1, b2, c1, k2.mono (s2.z.trans s34.z), c2, b3⟩, q⟩
        | true =>
          simp only [ec] at q
          refine iteT ⟨Hz4, ρ3, F4, z4, ?_⟩
          cases ee : fe ρ3 with
          | bad => simp only [ee] at q; obtain ⟨_, _, q, _⟩ := q; cases q
          | exc x ρ4 => simp only [ee] at q; obtain ⟨_, _, q, _⟩ := q; cases q
          | ok b ρ4 =>
            simp only [ee] at q
            intro yv Hz5 H5 F5 z5 s5 pb
            cases ef : frz b with
            | none => simp only [ef] at q; obtain ⟨_, _, q, _⟩ := q; cases q
            | some y =>
              simp only [ef] at q
              obtain ⟨Hz6, z6, s6, r6⟩ := freeze ef z5 s5 pb
              have s36 := s34.trans s6
              obtain ⟨b1, b2, b3⟩ := back z6 s36
              obtain ⟨c1, c2, _⟩ := da_stay a0.1 a0.2.1 a1 s36
              have kr := k2.mono (s2.z.trans s36.z)
              by_cases hl : okD accD y = true
              · simp only [hl, if_true] at q
                exact ⟨accV, c1, hok _ _ _ _ _ kr r6 hl, accD ++ [y], _, ⟨Hz6, _, accV ++ [yv], b1.put c2 b3, b2.put hD, upd_same, kr.append (.cons r6 .nil), c2, b3⟩, q⟩
              · simp only [hl] at q; obtain ⟨_, _, q, _⟩ := q; cases q
  · rw [List.drop_length] at q
    obtain ⟨acc, ρ, e, q⟩ := q
    cases e
    exact q H' st
end
section
variable {X : Cx} {T : Tx} {W : WX} {vs L vs1 L1 : List Nat} {it it1 : SI} {g g1 : SG} {ct ct1 : STs} {fe : SE} {Ho : Addr → List V → HO} {okp : List V → V → Prop} {okD : List D → D → Bool}
/-- the whole: Q' tells what stands behind -/
def Gats (T : Tx) (W : WX) (Ho : Addr → List V → HO) (σ : L2.St) (k : List D → Env → RE) (Q : VK) : VK := fun v H' => ∃ Da Hz1 H1 F1 acc ρ, v = .ref Da ∧ H1 Da = none ∧ Gat T Ho Da Hz1 H1 F1 σ acc ρ H' ∧ Aft T W Hz1 H1 F1 σ (PB T.K F1) (k acc ρ) Q
def sA2 (vs vs1 : List Nat) (it : SI) (g : SG) (ct : STs) (it1 : SI) (g1 : SG) (ct1 : STs) (fe : SE) (okD : List D → D → Bool) (k : List D → Env → RE) : SE := fun ρ => (it ρ).bnd fun ds ρ1 => match lcO vs g ct it1 (lcI vs1 g1 ct1 fe okD) ds [] ρ1 with
  | some (acc, ρ2) => k acc ρ2
  | none => .bad
theorem a2_ (hL : ∀ i ∈ L, i ∈ vs) (hL1 : ∀ i ∈ L1, i ∈ vs1) (hok : ∀ Hz accV accD yv y, RepL T.K Hz accV accD → Rep T.K Hz yv y → okD accD y = true → okp accV yv) {k : List D → Env → RE} {σ : L2.St} {H : Hp} {Q : VK}
    (h : tE T W (sA2 vs vs1 it g ct it1 g1 ct1 fe okD k) σ H Q) {Qf : VK} (hQ : ∀ v H', Gats T W Ho σ k Q v H' → Qf v H') : tA2 Ho okp (tI T W it) (tG T L g) (tT T W0 ct) (tI T W0 it1) (tG T L1 g1) (tT T W0 ct1) (tE T W0 fe) vs vs1 σ H Qf := by
  obtain ⟨Hz, ρ, F, z, h⟩ := h
  refine ⟨Hz, ρ, F, z, Aft.imp (Aft.bnd (P := PIt T.K) h) fun J H1 ⟨Hz1, F1, ds, ρ1, z1, s1, r1, q1⟩ => fun Da hD => ?_⟩
  obtain ⟨G, Y, wk, hG, hY⟩ := r1
  have q2 := q1.fromB s1
  refine walk_it wk (body := fun Nx x H' => tG T L g x (wipe σ vs) H' fun σ2 H2 => wipe σ2 vs = wipe σ vs ∧ tT T W0 ct σ2 H2 fun b H3 =>
    if b = true then tI T W0 it1 σ2 H3 fun J1 H4 => ∃ W1 : Nat → Nat → Hp → Prop, (∃ m, W1 0 m H4) ∧ ∀ j k H, W1 j k H →
      (J1.stop j H ∧ Nx H) ∨ (J1.go j H ∧ ∃ Nx1 : Hp → Prop, (∀ H', Nx1 H' → ∃ k', k' < k ∧ W1 (j + 1) k' H') ∧ ∀ x H', J1.yld j H x H' → tG T L1 g1 x (wipe σ2 vs1) H' fun σ3 H5 => wipe σ3 vs1 = wipe σ2 vs1 ∧ tT T W0 ct1 σ3 H5 fun b H6 =>
        if b = true then tE T W0 fe σ3 H6 fun y H7 => ∃ acc, H7 Da = some (Ho Da acc) ∧ okp acc y ∧ Nx1 (upd H7 Da (Ho Da (acc ++ [y]))) else Nx1 H6)
    else Nx H3)
    (fun i H' => ∃ accD ρ', Gat T Ho Da Hz1 H1 F1 σ accD ρ' H' ∧ Aft T W Hz1 H1 F1 σ (PB T.K F1) (match lcO vs g ct it1 (lcI vs1 g1 ct1 fe okD) (ds.drop i) accD ρ' with | some (acc, ρ2) => k acc ρ2 | none => .bad) Q)
    ⟨[], ρ1, ⟨Hz1, F1, [], z1.push0 hD, .push0 hD, upd_same, .nil, z1.sub.free hD, fun w => z1.there w hD⟩, q2⟩ (fun i H' _ ⟨accD, ρ', ⟨Hz', F', accV, z', sm, _⟩, _⟩ => hG H' (sm.z.trans z'.sub))
    (fun i x H' H'' hi ⟨accD, ρ', ⟨Hz', F', accV, z', sm, k1, k2, k3, k4⟩, q⟩ y => ?_) fun H' ⟨accD, ρ', st, q⟩ => ?_
  · obtain ⟨d, hd, n⟩ := hY i H' x H'' Hz' hi y sm.z z'.sub
    obtain ⟨Hz2, z2, s2, pb⟩ := new_zone z' n
    obtain ⟨fp, m, _⟩ := pb
    rw [drop_cons hi hd] at q
    unfold lcO at q
    have a0 := da_stay k1 k3 k4 s2
    have a1 := own_wiped (vs := vs) a0.2.2
    refine ⟨Hz2, _, _, d, z2.wipe (vs := vs), m.2, ?_⟩
    cases eg : g d (wipeB vs ρ') with
    | none => rw [eg] at q; cases q
    | some ρ2 =>
      rw [eg] at q
      intro σ3 Hz3 H3 F3 z3 s3 c3
      refine ⟨wipe_chg hL c3, Hz3, ρ2, F3, z3, ?_⟩
      have z2d := z2.drop a0.2.1 a0.2.2
      have back : ∀ {Hz4 H4 : Hp} {F4 : Nat → List Addr} {ρ4 : Env}, Zone T.K Hz4 H4 σ3 ρ4 F4 → Step Hz2 (drp H'' Da) (wipeF vs F') Hz4 H4 F4 → ¬ Own F4 Da → Zone T.K Hz4 H4 σ (keepE vs ρ' ρ4) (keepF vs F' F4) ∧ Step Hz1 H1 F1 Hz4 H4 (keepF vs F' F4) ∧ ¬ Own (keepF vs F' F4) Da := fun {Hz4 H4 F4 ρ4} z4 s4 n4 => by
        obtain ⟨b1, b2⟩ := z2d.unwipe z4 s4 (c3.mono hL)
        exact ⟨b1, ((sm.trans s2).dropR hD).trans b2, own_keep k4 n4⟩
      cases ec : ct ρ2 with
      | bad => simp only [ec] at q; cases q
      | exc x ρ3 => simp only [ec] at q; cases q
      | ok b ρ3 =>
        intro bb Hz4 H4 F4 z4 s4 eb
        cases eb
        have s34 := s3.trans s4
        have t34 := da_stay a0.1 a0.2.1 a1 s34
        cases b with
        | false =>
          simp only [ec] at q
          obtain ⟨b1, b2, b3⟩ := back z4 s34.dropL t34.2.2
          exact iteF ⟨accD, _, ⟨Hz4, _, accV, b1, b2, t34.1, k2.mono (s2.z.trans s34.z), t34.2.1, b3⟩, q⟩
        | true =>
          simp only [ec] at q
          refine iteT ⟨Hz4, ρ3, F4, z4, ?_⟩
          cases ei : it1 ρ3 with
          | bad => simp only [ei] at q; cases q
          | exc x ρ4 => simp only [ei] at q; cases q
          | ok ds1 ρ4 =>
            simp only [ei] at q
            intro J1 Hz5 H5 F5 z5 s5 r5
            have s35 := s34.trans s5
            have t35 := da_stay a0.1 a0.2.1 a1 s35
            have kr := k2.mono (s2.z.trans s35.z)
            refine in_turns (T := T) (Ho := Ho) (okp := okp) (okD := okD) (Hzb := Hz5) (Hb := drp H5 Da) (Fb := F5) hL1 hok drp_same r5 (acc0 := accD) (ρ0 := ρ4) ⟨Hz5, F5, accV, z5, Step.refl.dropL, t35.1, kr, t35.2.1, t35.2.2⟩ ?_
            cases ei1 : lcI vs1 g1 ct1 fe okD ds1 accD ρ4 with
            | none => simp only [ei1] at q; cases q
            | some pr =>
              obtain ⟨acc', ρ5⟩ := pr
              simp only [ei1] at q
              refine ⟨acc', ρ5, rfl, fun H7 ⟨Hz7, F7, accV7, z7, s7, l1, l2, l3, l4⟩ => ?_⟩
              obtain ⟨b1, b2, b3⟩ := back z7 ((s35.dropL.dropR drp_same).trans s7) l4
              exact ⟨acc', _, ⟨Hz7, _, accV7, b1, b2, l1, l2, l3, b3⟩, q⟩
  · rw [List.drop_length] at q
    exact hQ _ _ ⟨Da, Hz1, H1, F1, accD, ρ', rfl, hD, st, q⟩
end
end FK

set_option Elab.async false
set_option linter.all false
set_option maxRecDepth 100000
set_option maxHeartbeats 2000000
/-! FK 32: [.. for .. for ..]; sorted({.. for .. for ..}). -/
namespace FK
open PySem PySem.Spec PyProof.Rows L2
open PySem.W (alike dataLt AllAlike Sortable dataLe EachIs)
def anyD (acc : List D) (_ : D) : Bool := decide (acc.length < sizeLine)
def kList (acc : List D) (ρ : Env) : RE := .ok (.ow (.list acc)) ρ
def txtD (acc : List D) (y : D) : Bool := decide (acc.length + 1 < 4000) && match y with
  | .str _ => true
  | _ => false
open Classical in
noncomputable def kSort (acc : List D) (ρ : Env) : RE := if RoseOk acc then .ok (.ow (.list (rose acc))) ρ else .bad
def sLc2 (vs vs1 : List Nat) (it : SI) (g : SG) (ct : STs) (it1 : SI) (g1 : SG) (ct1 : STs) (fe : SE) : SE := sA2 vs vs1 it g ct it1 g1 ct1 fe anyD kList
noncomputable def sSc2 (vs vs1 : List Nat) (it : SI) (g : SG) (ct : STs) (it1 : SI) (g1 : SG) (ct1 : STs) (fe : SE) : SE := sA2 vs vs1 it g ct it1 g1 ct1 fe txtD kSort
theorem RepL.left {K : Fg} {Hz : Hp} : ∀ {vs : List V} {ds : List D}, RepL K Hz vs ds → ∀ v ∈ vs, ∃ d ∈ ds, Rep K Hz v d
  | _, _, .nil, v, h => by cases h
  | _, _, .cons r t, v, h => by
    rcases List.mem_cons.mp h with e | h
    · exact ⟨_, List.mem_cons_self, e ▸ r⟩
    · obtain ⟨d, hd, q⟩ := RepL.left t v h
      exact ⟨d, List.mem_cons_of_mem _ hd, q⟩
theorem RepL.right {K : Fg} {Hz : Hp} : ∀ {vs : List V} {ds : List D}, RepL K Hz vs ds → ∀ d ∈ ds, ∃ v ∈ vs, Rep K Hz v d
  | _, _, .nil, v, h => by cases h
  | _, _, .cons r t, v, h => by
    rcases List.mem_cons.mp h with e | h
    · exact ⟨_, List.mem_cons_self, e ▸ r⟩
    · obtain ⟨d, hd, q⟩ := RepL.right t v h
      exact ⟨d, List.mem_cons_of_mem _ hd, q⟩
theorem ok_any {K : Fg} (Hz : Hp) (accV : List V) (accD : List D) (yv : V) (y : D) (r : RepL K Hz accV accD) (_ : Rep K Hz yv y) (h : anyD accD y = true) : accV.length < sizeLine := by
  rw [r.length]
  exact of_decide_eq_true h
theorem ok_txt {K : Fg} (Hz : Hp) (accV : List V) (accD : List D) (yv : V) (y : D) (r : RepL K Hz accV accD) (q : Rep K Hz yv y) (h : txtD accD y = true) : TxtIn accV yv := by
  unfold txtD at h
  rw [Bool.and_eq_true] at h
  refine ⟨by rw [r.length]; exact of_decide_eq_true h.1, ?_⟩
  cases y with
  | str x =>
    cases q
    exact ⟨x, rfl⟩
  | _ => exact absurd h.2 Bool.false_ne_true
section
variable {X : Cx} {T : Tx} {W : WX} {P : List Nat} {k : Nat} {l m : List Nat} {pos p p1 p2 : Pos}
theorem a2_list {vs L vs1 L1 : List Nat} {it it1 : SI} {g g1 : SG} {ct ct1 : STs} {fe : SE} (hL : ∀ i ∈ L, i ∈ vs) (hL1 : ∀ i ∈ L1, i ∈ vs1) {σ : L2.St} {H : Hp} {Q : VK} (h : tE T W (sLc2 vs vs1 it g ct it1 g1 ct1 fe) σ H Q) :
    tLc2 (tI T W it) (tG T L g) (tT T W0 ct) (tI T W0 it1) (tG T L1 g1) (tT T W0 ct1) (tE T W0 fe) vs vs1 σ H Q :=
  a2_ (Ho := fun _ xs => .lst xs) (okp := fun acc _ => acc.length < sizeLine) hL hL1 ok_any h fun v H' ⟨Da, Hz1, H1, F1, acc, ρ, ev, hD, ⟨Hz', F', accV, z', sm, k1, k2, k3, k4⟩, q⟩ => by
    subst ev
    exact q (.ref Da) Hz' H' F' z' sm ⟨[Da], ⟨Da, rfl, rfl, accV, k1, k2⟩, fun c hc => by
      obtain rfl : c = Da := by simpa using hc
      exact ⟨k3, k4, .inl hD⟩⟩
theorem lc2_ (C : Cxt X T W k l m) (l' m' : List Nat) (own : List (Str × Nat)) (vs1 : List Nat) {elt tg iter tg1 iter1 : Expr} {ifs ifs1 : List Expr} {scope : Scope} {it it1 : SI} {g g1 : SG} {ct ct1 : STs} {fe : SE} {L L1 : List Nat} (hb : blkC X.N X.env.scope scope own = true)
    (h1 : seesB X.N (relS scope X.env.scope) l' = true) (h2 : ownsB X.N (relS scope X.env.scope) m' = true) (hL : (L.all fun i => (own.map (·.2)).contains i) = true) (hL1 : (L1.all fun i => vs1.contains i) = true) (hv : (vs1.all fun i => (own.map (·.2)).contains i) = true) (hi : PI X tg iter (tI T W it))
    (hg : ∀ (s : Shared) (H : Hp) (Ca : Addr) (cl : List (Str × Addr)) (fp : List Addr), Cxt (X.blk s H scope (compEnvC scope cl Ca X.env) fp) T W0 k l' m' → PG (X.blk s H scope (compEnvC scope cl Ca X.env) fp) tg (tG T L g))
    (ht : ∀ (s : Shared) (H : Hp) (Ca : Addr) (cl : List (Str × Addr)) (fp : List Addr), Cxt (X.blk s H scope (compEnvC scope cl Ca X.env) fp) T W0 k l' m' → PTs (X.blk s H scope (compEnvC scope cl Ca X.env) fp) ifs (tT T W0 ct))
    (hi1 : ∀ (s : Shared) (H : Hp) (Ca : Addr) (cl : List (Str × Addr)) (fp : List Addr), Cxt (X.blk s H scope (compEnvC scope cl Ca X.env) fp) T W0 k l' m' → PI (X.blk s H scope (compEnvC scope cl Ca X.env) fp) tg1 iter1 (tI T W0 it1))
    (hg1 : ∀ (s : Shared) (H : Hp) (Ca : Addr) (cl : List (Str × Addr)) (fp : List Addr), Cxt (X.blk s H scope (compEnvC scope cl Ca X.env) fp) T W0 k l' m' → PG (X.blk s H scope (compEnvC scope cl Ca X.env) fp) tg1 (tG T L1 g1))
    (ht1 : ∀ (s : Shared) (H : Hp) (Ca : Addr) (cl : List (Str × Addr)) (fp : List Addr), Cxt (X.blk s H scope (compEnvC scope cl Ca X.env) fp) T W0 k l' m' → PTs (X.blk s H scope (compEnvC scope cl Ca X.env) fp) ifs1 (tT T W0 ct1))
    (he : ∀ (s : Shared) (H : Hp) (Ca : Addr) (cl : List (Str × Addr)) (fp : List Addr), Cxt (X.blk s H scope (compEnvC scope cl Ca X.env) fp) T W0 k l' m' → PE (X.blk s H scope (compEnvC scope cl Ca X.env) fp) elt (tE T W0 fe)) (hs : ∀ x, foldedSetIterable iter X.env x = pure x) (hs1 : ∀ env x, foldedSetIterable iter1 env x = pure x) :
    PE X (.ListComp elt [⟨tg, iter, ifs, 0⟩, ⟨tg1, iter1, ifs1, 0⟩] scope pos) (tE T W (sLc2 (own.map (·.2)) vs1 it g ct it1 g1 ct1 fe)) :=
  PE.mono (pe_lc2 C.calm C.nd hi (blkOk_by hb) (fun i hi => List.contains_iff_mem.mp (List.all_eq_true.mp hv i hi)) (fun s H Ca cl fp => hg s H Ca cl fp (C.blk h1 h2 s H Ca cl fp)) (fun s H Ca cl fp => ht s H Ca cl fp (C.blk h1 h2 s H Ca cl fp)) (fun s H Ca cl fp => hi1 s H Ca cl fp (C.blk h1 h2 s H Ca cl fp))
    (fun s H Ca cl fp => hg1 s H Ca cl fp (C.blk h1 h2 s H Ca cl fp)) (fun s H Ca cl fp => ht1 s H Ca cl fp (C.blk h1 h2 s H Ca cl fp)) (fun s H Ca cl fp => he s H Ca cl fp (C.blk h1 h2 s H Ca cl fp)) hs hs1) fun σ H Q h =>
    a2_list (fun i hi => List.contains_iff_mem.mp (List.all_eq_true.mp hL i hi)) (fun i hi => List.contains_iff_mem.mp (List.all_eq_true.mp hL1 i hi)) h
theorem setLc2_ (C : Cxt X T W k l m) (l' m' : List Nat) (own : List (Str × Nat)) (vs1 : List Nat) (keep : Bool) {i : Nat} {y : Str} {py spos : Pos} {elt tg iter tg1 iter1 : Expr} {ifs ifs1 : List Expr} {scope : Scope} {it it1 : SI} {g g1 : SG} {ct ct1 : STs} {fe : SE} {L L1 : List Nat} (hP : P.contains i = false)
    (hy : X.N[i]? = some y) (hyl : X.env.scope.names.lookup y = some .local) (hsw : swapsWith (.ListComp elt [⟨tg, iter, ifs, 0⟩, ⟨tg1, iter1, ifs1, 0⟩] scope pos) (some (.Name y py)) spos.line X.env = pure true) (hb : blkC X.N X.env.scope scope own = true)
    (h1 : seesB X.N (relS scope X.env.scope) l' = true) (h2 : ownsB X.N (relS scope X.env.scope) m' = true) (hL : (L.all fun i => (own.map (·.2)).contains i) = true) (hL1 : (L1.all fun i => vs1.contains i) = true) (hv : (vs1.all fun i => (own.map (·.2)).contains i) = true) (hi : PI X tg iter (tI T W it))
    (hg : ∀ (s : Shared) (H : Hp) (Ca : Addr) (cl : List (Str × Addr)) (fp : List Addr), Cxt (X.blk s H scope (compEnvC scope cl Ca X.env) fp) T W0 k l' m' → PG (X.blk s H scope (compEnvC scope cl Ca X.env) fp) tg (tG T L g))
    (ht : ∀ (s : Shared) (H : Hp) (Ca : Addr) (cl : List (Str × Addr)) (fp : List Addr), Cxt (X.blk s H scope (compEnvC scope cl Ca X.env) fp) T W0 k l' m' → PTs (X.blk s H scope (compEnvC scope cl Ca X.env) fp) ifs (tT T W0 ct))
    (hi1 : ∀ (s : Shared) (H : Hp) (Ca : Addr) (cl : List (Str × Addr)) (fp : List Addr), Cxt (X.blk s H scope (compEnvC scope cl Ca X.env) fp) T W0 k l' m' → PI (X.blk s H scope (compEnvC scope cl Ca X.env) fp) tg1 iter1 (tI T W0 it1))
    (hg1 : ∀ (s : Shared) (H : Hp) (Ca : Addr) (cl : List (Str × Addr)) (fp : List Addr), Cxt (X.blk s H scope (compEnvC scope cl Ca X.env) fp) T W0 k l' m' → PG (X.blk s H scope (compEnvC scope cl Ca X.env) fp) tg1 (tG T L1 g1))
    (ht1 : ∀ (s : Shared) (H : Hp) (Ca : Addr) (cl : List (Str × Addr)) (fp : List Addr), Cxt (X.blk s H scope (compEnvC scope cl Ca X.env) fp) T W0 k l' m' → PTs (X.blk s H scope (compEnvC scope cl Ca X.env) fp) ifs1 (tT T W0 ct1))
    (he : ∀ (s : Shared) (H : Hp) (Ca : Addr) (cl : List (Str × Addr)) (fp : List Addr), Cxt (X.blk s H scope (compEnvC scope cl Ca X.env) fp) T W0 k l' m' → PE (X.blk s H scope (compEnvC scope cl Ca X.env) fp) elt (tE T W0 fe)) (hs : ∀ x, foldedSetIterable iter X.env x = pure x) (hs1 : ∀ env x, foldedSetIterable iter1 env x = pure x) :
    PS X (.Assign [.Name y py] (.ListComp elt [⟨tg, iter, ifs, 0⟩, ⟨tg1, iter1, ifs1, 0⟩] scope pos) spos) (tS T W P (sSet keep i (sLc2 (own.map (·.2)) vs1 it g ct it1 g1 ct1 fe))) := by
  refine PS.mono (ps_setLc2 C.calm C.nd hy hyl hsw hi (blkOk_by hb) (fun i hi => List.contains_iff_mem.mp (List.all_eq_true.mp hv i hi)) (fun s H Ca cl fp => hg s H Ca cl fp (C.blk h1 h2 s H Ca cl fp)) (fun s H Ca cl fp => ht s H Ca cl fp (C.blk h1 h2 s H Ca cl fp)) (fun s H Ca cl fp => hi1 s H Ca cl fp (C.blk h1 h2 s H Ca cl fp))
    (fun s H Ca cl fp => hg1 s H Ca cl fp (C.blk h1 h2 s H Ca cl fp)) (fun s H Ca cl fp => ht1 s H Ca cl fp (C.blk h1 h2 s H Ca cl fp)) (fun s H Ca cl fp => he s H Ca cl fp (C.blk h1 h2 s H Ca cl fp)) hs hs1) fun De σ H ⟨Hz, ρ, F, z, h⟩ => ?_
  refine a2_list (fun i hi => List.contains_iff_mem.mp (List.all_eq_true.mp hL i hi)) (fun i hi => List.contains_iff_mem.mp (List.all_eq_true.mp hL1 i hi)) ⟨Hz, ρ, F, z, Aft.imp (AftS.bS (PP := PB T.K F) h) fun v H1 ⟨Hz1, F1, b, ρ1, z1, s1, r1, q1⟩ => ?_⟩
  exact set_aft (fun h => by rw [List.contains_iff_mem.mpr h] at hP; cases hP) z1 s1 r1 q1
/-- sorted(a set of texts that a comprehension makes) -/
theorem sort_gat (C : Cxt X T W k l m) {e : Expr} {t : TE} (h1 : X.mg "sorted" = none) (g1 : Gl X "sorted") (he : PE X e t) {f : SE} (hf : ∀ {σ : L2.St} {H : Hp} {Q Qf : VK}, tE T W f σ H Q → (∀ v H', Gats T W (TxtO X.w) σ kSort Q v H' → Qf v H') → t σ H Qf)
    (hs2 : starEach [e] X.env = (false, eval e X.env) :: starEach [] X.env) : PE X (.Call (.Name "sorted" p) [e] [] pos) (tE T W f) := by
  refine ⟨fun pins s σ H Q I h => ?_⟩
  refine Call_ (ld_blt I g1 h1 boot_sorted (PyProof.Rows.callWith_builtin1 ?_ hs2 rfl))
  rw [hs2]
  show wpAny _ _ (spliced ((false, eval e X.env) :: backTo pos (starEach [] X.env))) _ _ s
  refine Calls.spliced_cons ?_
  refine thn (he.run pins s σ H _ I (hf h fun _ _ x => x)) fun v s1 ⟨x, H1, I1, rx, Da, Hz1, H0, F1, acc, ρ1, ev, hD, ⟨Hz', F', accV, z', sm, k1, k2, k3, k4⟩, q⟩ => ?_
  subst ev
  cases rx
  refine Calls.spliced_nil ?_
  unfold kSort at q
  by_cases ok : RoseOk acc
  · rw [if_pos ok] at q
    have hu := C.units2
    obtain ⟨L, S, m1, m2, m3⟩ : ∃ L, SetK X.w true s1.heap Da L ∧ (∀ x, NestedKey.text x ∈ L.map (·.2) ↔ V.str x ∈ accV) ∧ (∀ v ∈ accV, ∃ x, v = V.str x) ∧ L.length ≤ accV.length := (I1.hok Da _ k1).1
    rw [← C.hK] at k2
    refine sorted_of_set S (I1.ok.hd C.calm) hu ok (K := X.K) (Hz := Hz') (fun p hp => ?_) (fun d hd => ?_) (fun u b r2 r3 hb => rep_reads I1 z'.sub r3 (ok.1.1 _ hb).1 r2) fun s' pa out c vs' kp g2 o2 lo at_ hz rv2 ra2 => ?_
    · obtain ⟨x, t, rfl⟩ := txt_of S p hp
      obtain ⟨d, hd, r⟩ := k2.left _ ((m1 x).1 (List.mem_map.mpr ⟨_, hp, rfl⟩))
      cases r
      exact ⟨(.str x, .str x), ⟨t, rfl⟩, .str x, rfl, hd⟩
    · obtain ⟨v, hv, r⟩ := k2.right d hd
      obtain ⟨x, rfl⟩ := m2 v hv
      cases r
      obtain ⟨p, hp, e⟩ := List.mem_map.mp ((m1 x).2 hv)
      exact ⟨p, hp, by rw [e]; rfl⟩
    · have new : H1 pa = none := I1.hok.fresh lo
      have hlen : vs'.length ≤ sizeLine := by rw [rv2.length, sizeLine_eq]; omega
      have J : Inv X pins σ (upd H1 pa (.lst vs')) { s1 with heap := s'.heap, gens := s'.gens, drawn := s'.drawn, toks := s'.toks } :=
        I1.call (ch := []) (Un.laid kp lo new) (I1.hok.laid kp lo ⟨hlen, out, c, rv2, at_⟩) (by rw [g2]; exact I1.bare) (fun _ z => nomatch z)
      have e : s' = { s1 with heap := s'.heap, gens := s'.gens, drawn := s'.drawn, toks := s'.toks } := by
        cases s'; cases s1; cases o2; rfl
      rw [e]
      refine ⟨.ref pa, _, J, rfl, (q.fromB sm).made z' ?_⟩
      rw [C.hK] at ra2
      exact .lst z'.sub new ra2
  · rw [if_neg ok] at q
    cases q
theorem sc2_ (C : Cxt X T W k l m) (l' m' : List Nat) (own : List (Str × Nat)) (vs1 : List Nat) {elt tg iter tg1 iter1 : Expr} {ifs ifs1 : List Expr} {scope : Scope} {cpos : Pos} {it it1 : SI} {g g1 : SG} {ct ct1 : STs} {fe : SE} {L L1 : List Nat} (k1 : X.mg "sorted" = none) (k2 : Gl X "sorted") (hb : blkC X.N X.env.scope scope own = true)
    (h1 : seesB X.N (relS scope X.env.scope) l' = true) (h2 : ownsB X.N (relS scope X.env.scope) m' = true) (hL : (L.all fun i => (own.map (·.2)).contains i) = true) (hL1 : (L1.all fun i => vs1.contains i) = true) (hv : (vs1.all fun i => (own.map (·.2)).contains i) = true) (hi : PI X tg iter (tI T W it))
    (hg : ∀ (s : Shared) (H : Hp) (Ca : Addr) (cl : List (Str × Addr)) (fp : List Addr), Cxt (X.blk s H scope (compEnvC scope cl Ca X.env) fp) T W0 k l' m' → PG (X.blk s H scope (compEnvC scope cl Ca X.env) fp) tg (tG T L g))
    (ht : ∀ (s : Shared) (H : Hp) (Ca : Addr) (cl : List (Str × Addr)) (fp : List Addr), Cxt (X.blk s H scope (compEnvC scope cl Ca X.env) fp) T W0 k l' m' → PTs (X.blk s H scope (compEnvC scope cl Ca X.env) fp) ifs (tT T W0 ct))
    (hi1 : ∀ (s : Shared) (H : Hp) (Ca : Addr) (cl : List (Str × Addr)) (fp : List Addr), Cxt (X.blk s H scope (compEnvC scope cl Ca X.env) fp) T W0 k l' m' → PI (X.blk s H scope (compEnvC scope cl Ca X.env) fp) tg1 iter1 (tI T W0 it1))
    (hg1 : ∀ (s : Shared) (H : Hp) (Ca : Addr) (cl : List (Str × Addr)) (fp : List Addr), Cxt (X.blk s H scope (compEnvC scope cl Ca X.env) fp) T W0 k l' m' → PG (X.blk s H scope (compEnvC scope cl Ca X.env) fp) tg1 (tG T L1 g1))
    (ht1 : ∀ (s : Shared) (H : Hp) (Ca : Addr) (cl : List (Str × Addr)) (fp : List Addr), Cxt (X.blk s H scope (compEnvC scope cl Ca X.env) fp) T W0 k l' m' → PTs (X.blk s H scope (compEnvC scope cl Ca X.env) fp) ifs1 (tT T W0 ct1))
    (he : ∀ (s : Shared) (H : Hp) (Ca : Addr) (cl : List (Str × Addr)) (fp : List Addr), Cxt (X.blk s H scope (compEnvC scope cl Ca X.env) fp) T W0 k l' m' → PE (X.blk s H scope (compEnvC scope cl Ca X.env) fp) elt (tE T W0 fe)) (hs : ∀ x, foldedSetIterable iter X.env x = pure x) (hs1 : ∀ env x, foldedSetIterable iter1 env x = pure x)
    (hs2 : starEach [.SetComp elt [⟨tg, iter, ifs, 0⟩, ⟨tg1, iter1, ifs1, 0⟩] scope cpos] X.env = (false, eval (.SetComp elt [⟨tg, iter, ifs, 0⟩, ⟨tg1, iter1, ifs1, 0⟩] scope cpos) X.env) :: starEach [] X.env) :
    PE X (.Call (.Name "sorted" p) [.SetComp elt [⟨tg, iter, ifs, 0⟩, ⟨tg1, iter1, ifs1, 0⟩] scope cpos] [] pos) (tE T W (sSc2 (own.map (·.2)) vs1 it g ct it1 g1 ct1 fe)) :=
  sort_gat C k1 k2 (pe_sc2 C.calm C.nd hi (blkOk_by hb) (fun i hi => List.contains_iff_mem.mp (List.all_eq_true.mp hv i hi)) (fun s H Ca cl fp => hg s H Ca cl fp (C.blk h1 h2 s H Ca cl fp)) (fun s H Ca cl fp => ht s H Ca cl fp (C.blk h1 h2 s H Ca cl fp)) (fun s H Ca cl fp => hi1 s H Ca cl fp (C.blk h1 h2 s H Ca cl fp))
    (fun s H Ca cl fp => hg1 s H Ca cl fp (C.blk h1 h2 s H Ca cl fp)) (fun s H Ca cl fp => ht1 s H Ca cl fp (C.blk h1 h2 s H Ca cl fp)) (fun s H Ca cl fp => he s H Ca cl fp (C.blk h1 h2 s H Ca cl fp)) hs hs1)
    (fun h hq => a2_ (fun i hi => List.contains_iff_mem.mp (List.all_eq_true.mp hL i hi)) (fun i hi => List.contains_iff_mem.mp (List.all_eq_true.mp hL1 i hi)) ok_txt h hq) hs2
end
end FK

set_option Elab.async false
set_option linter.all false
set_option maxRecDepth 100000
set_option maxHeartbeats 1000000
/-! FK 34: sets of texts and of links, reckoned; comprehensions of two clauses that change nothing. -/
namespace FK
open PySem PySem.Spec PyProof.Rows L2
open PySem.W (alike dataLt AllAlike Sortable dataLe)
theorem okEq_ld {l : Lnk} (hx : PyData.strOk l.x = true) (hy : PyData.strOk l.y = true) : okEq (ld l) = true := by
  unfold ld okEq SeqAt.shaped PyData.canLay0 PyData.canLayAll0 PyData.canLayAll0 PyData.canLayAll0 PyData.canLayAll0 PyData.canLayAll0 PyData.canLay0
  rw [hx, hy]
  rfl
theorem once_len : ∀ ds : List D, (once ds).length ≤ ds.length
  | [] => Nat.le_refl _
  | d :: ds => by
    unfold once
    split
    · exact Nat.le_succ_of_le (once_len ds)
    · exact Nat.succ_le_succ (once_len ds)
theorem rose_texts {zs : List Str} (h : ∀ z ∈ zs, PyData.strOk z = true) (hl : zs.length < 4000) : RoseOk (zs.map .str) := by
  obtain ⟨rs, _, _, _, u⟩ := rk_str.rose zs
  refine ⟨⟨fun d hd => ?_, .inl ⟨fun d hd => ?_, by rw [List.length_map]; exact hl⟩⟩, PySem.W.AllAlike.of fun _ _ => by simp [alike], PySem.W.Sortable.others fun _ => ⟨(fun w => nomatch w), fun _ w => nomatch w⟩, u⟩
  · obtain ⟨z, hz, rfl⟩ := List.mem_map.mp hd
    exact ⟨okEq_str (h z hz), .text z, rfl, Nat.zero_le _⟩
  · obtain ⟨z, hz, rfl⟩ := List.mem_map.mp hd
    exact ⟨z, rfl⟩
theorem rose_links {ls : List Lnk} (h : ∀ l ∈ ls, PyData.strOk l.x = true ∧ PyData.strOk l.y = true) (hl : ls.length < 300) : RoseOk (ls.map ld) := by
  obtain ⟨rs, _, _, _, u⟩ := rk_lnk.rose ls
  refine ⟨⟨fun d hd => ?_, .inr ⟨fun d hd => ?_, by rw [List.length_map]; exact hl⟩⟩, PySem.W.AllAlike.of alike_ld, PySem.W.Sortable.tuples fun l => ⟨_, _, rfl⟩, u⟩
  · obtain ⟨l, hl, rfl⟩ := List.mem_map.mp hd
    exact ⟨okEq_ld (h l hl).1 (h l hl).2, .tup [.num l.c, .num l.m, .text l.x, .text l.y], rfl, by simp [NestedKey.depth, NestedKey.depthAll]⟩
  · obtain ⟨l, hl, rfl⟩ := List.mem_map.mp hd
    exact ⟨_, rfl⟩
theorem ss_list {ds : List D} (h : RoseOk ds) : gSortedSet [.list ds] = some (.ow (.list (rose ds))) := if_pos h
theorem ss_tuple {ds : List D} (h : RoseOk ds) : gSortedSet [.tuple ds] = some (.ow (.list (rose ds))) := if_pos h
theorem lcI_pure {vs : List Nat} {g : SG} {ct : STs} {fe : SE} {okD : List D → D → Bool} (q : D → Env) (v : D → D) (n : Nat) (ok : ∀ acc y, acc.length < n → okD acc (v y) = true) : ∀ {ds acc : List D} {ρ : Env},
    (∀ d ∈ ds, g d (wipeB vs ρ) = some (q d) ∧ ct (q d) = .ok true (q d) ∧ (∃ b, fe (q d) = .ok b (q d) ∧ frz b = some (v d)) ∧ keepE vs ρ (q d) = ρ) → acc.length + ds.length ≤ n → lcI vs g ct fe okD ds acc ρ = some (acc ++ ds.map v, ρ)
  | [], acc, ρ, _, _ => by rw [lcI]; simp
  | d :: ds, acc, ρ, h, hl => by
    obtain ⟨h1, h2, ⟨b, h3, h4⟩, h5⟩ := h d List.mem_cons_self
    simp only [List.length_cons] at hl
    rw [lcI, h1]
    simp only [h2, h3, h4]
    rw [if_pos (ok acc d (by omega)), h5, lcI_pure q v n ok (fun e he => h e (List.mem_cons_of_mem _ he)) (by simp only [List.length_append, List.length_cons, List.length_nil]; omega)]
    simp
theorem lcO_pure {vs : List Nat} {g : SG} {ct : STs} {it1 : SI} {inn : List D → List D → Env → Option (List D × Env)} (q : D → Env) (s w : D → List D) (n : Nat) : ∀ {ds acc : List D} {ρ : Env},
    (∀ d ∈ ds, g d (wipeB vs ρ) = some (q d) ∧ ct (q d) = .ok true (q d) ∧ it1 (q d) = .ok (s d) (q d) ∧ (∀ acc, acc.length + (w d).length ≤ n → inn (s d) acc (q d) = some (acc ++ w d, q d)) ∧ keepE vs ρ (q d) = ρ) → acc.length + (ds.flatMap w).length ≤ n →
      lcO vs g ct it1 inn ds acc ρ = some (acc ++ ds.flatMap w, ρ)
  | [], acc, ρ, _, _ => by rw [lcO]; simp
  | d :: ds, acc, ρ, h, hl => by
    obtain ⟨h1, h2, h3, h4, h5⟩ := h d List.mem_cons_self
    rw [List.flatMap_cons, List.length_append] at hl
    rw [lcO, h1]
    simp only [h2, h3]
    rw [h4 acc (by omega)]
    simp only [h5]
    rw [lcO_pure q s w n (fun e he => h e (List.mem_cons_of_mem _ he)) (by rw [List.length_append]; omega), List.flatMap_cons]
    simp
/-! ### in, ==, != of rows -/
theorem canAll {ds : List D} (h : ∀ d ∈ ds, PyData.canLay0 d = true) : PyData.canLayAll0 ds = true := by
  induction ds with
  | nil => rw [PyData.canLayAll0]
  | cons d ds ih => rw [PyData.canLayAll0, h d List.mem_cons_self, ih fun x hx => h x (List.mem_cons_of_mem _ hx)]; rfl
theorem depthAll_le {ds : List D} {n : Nat} (h : ∀ d ∈ ds, PyData.depth d ≤ n) : PyData.depthAll ds ≤ n := by
  induction ds with
  | nil => rw [PyData.depthAll]; exact Nat.zero_le _
  | cons d ds ih => rw [PyData.depthAll]; exact Nat.max_le.mpr ⟨h d List.mem_cons_self, ih fun x hx => h x (List.mem_cons_of_mem _ hx)⟩
theorem okEq_l {ds : List D} (h : ∀ d ∈ ds, PyData.canLay0 d = true ∧ PyData.depth d ≤ 60) : okEq (.list ds) = true := by
  have q := depthAll_le fun d hd => (h d hd).2
  unfold okEq SeqAt.shaped
  rw [PyData.canLay0, canAll fun d hd => (h d hd).1, PyData.depth, Bool.true_and]
  exact decide_eq_true (by omega)
theorem okEq_t {ds : List D} (h : ∀ d ∈ ds, PyData.canLay0 d = true ∧ PyData.depth d ≤ 60) : okEq (.tuple ds) = true := by
  have q := depthAll_le fun d hd => (h d hd).2
  unfold okEq SeqAt.shaped
  rw [PyData.canLay0, canAll fun d hd => (h d hd).1, PyData.depth, Bool.true_and]
  exact decide_eq_true (by omega)
theorem lay_strs {zs : List Str} (h : ∀ z ∈ zs, PyData.strOk z = true) : ∀ d ∈ zs.map PyData.str, PyData.canLay0 d = true ∧ PyData.depth d ≤ 60 := fun d hd => by
  obtain ⟨z, hz, rfl⟩ := List.mem_map.mp hd
  exact ⟨by rw [PyData.canLay0]; exact h z hz, by rw [PyData.depth]; exact Nat.zero_le _⟩
theorem lay_ld {ls : List Lnk} (h : ∀ l ∈ ls, PyData.strOk l.x = true ∧ PyData.strOk l.y = true) : ∀ d ∈ ls.map ld, PyData.canLay0 d = true ∧ PyData.depth d ≤ 60 := fun d hd => by
  obtain ⟨l, hl, rfl⟩ := List.mem_map.mp hd
  have q := okEq_ld (h l hl).1 (h l hl).2
  unfold okEq SeqAt.shaped at q
  rw [Bool.and_eq_true] at q
  exact ⟨q.1, by show PyData.depth (.tuple [.int l.c, .int l.m, .str l.x, .str l.y]) ≤ 60; simp [PyData.depth, PyData.depthAll]⟩
theorem eqvAll_map {α : Type} [DecidableEq α] {f : α → D} (h : ∀ a b, PyData.eqv (f a) (f b) = decide (a = b)) : ∀ as bs : List α, PyData.eqvAll (as.map f) (bs.map f) = decide (as = bs)
  | [], [] => by simp [PyData.eqvAll]
  | [], b :: bs => by simp [PyData.eqvAll]
  | a :: as, [] => by simp [PyData.eqvAll]
  | a :: as, b :: bs => by
    rw [List.map_cons, List.map_cons, PyData.eqvAll, h, eqvAll_map h as bs]
    simp
theorem eqv_ld (a b : Lnk) : PyData.eqv (ld a) (ld b) = decide (a = b) := by
  cases a; cases b
  show PyData.eqvAll _ _ = _
  simp [PyData.eqvAll, eqv_ints, eqv_strs]
section
variable {as bs : List Str} {ls ms : List Lnk} {ds : List D}
theorem gEq_texts (h1 : ∀ z ∈ as, PyData.strOk z = true) (h2 : ∀ z ∈ bs, PyData.strOk z = true) : gEq (.list (as.map .str)) (.list (bs.map .str)) = some (.fr (.bool (decide (as = bs)))) := by
  unfold gEq
  rw [if_pos ⟨okEq_l (lay_strs h1), okEq_l (lay_strs h2)⟩]
  show some (B.fr (.bool (PyData.eqvAll (as.map PyData.str) (bs.map PyData.str)))) = _
  rw [eqvAll_map fun _ _ => eqv_strs]
theorem gNe_texts (h1 : ∀ z ∈ as, PyData.strOk z = true) (h2 : ∀ z ∈ bs, PyData.strOk z = true) : gNe (.list (as.map .str)) (.list (bs.map .str)) = some (.fr (.bool (!decide (as = bs)))) := by
  unfold gNe
  rw [if_pos ⟨okEq_l (lay_strs h1), okEq_l (lay_strs h2)⟩]
  show some (B.fr (.bool (!PyData.eqvAll (as.map PyData.str) (bs.map PyData.str)))) = _
  rw [eqvAll_map fun _ _ => eqv_strs]
theorem gNe_links (h1 : ∀ l ∈ ls, PyData.strOk l.x = true ∧ PyData.strOk l.y = true) (h2 : ∀ l ∈ ms, PyData.strOk l.x = true ∧ PyData.strOk l.y = true) : gNe (.list (ls.map ld)) (.list (ms.map ld)) = some (.fr (.bool (!decide (ls = ms)))) := by
  unfold gNe
  rw [if_pos ⟨okEq_l (lay_ld h1), okEq_l (lay_ld h2)⟩]
  show some (B.fr (.bool (!PyData.eqvAll (ls.map ld) (ms.map ld)))) = _
  rw [eqvAll_map eqv_ld]
theorem gNe_nil : gNe (.list ds) (.list []) = some (.fr (.bool (!ds.isEmpty))) := by
  unfold gNe
  split
  · have e : PyData.eqv (.list ds) (.list []) = ds.isEmpty := by
      show PyData.eqvAll ds [] = _
      cases ds <;> simp [PyData.eqvAll]
    rw [e]
  · rfl
/-- its signs are common, where it is a text -/
def El (d : D) : Prop := ∀ z, d = .str z → PyData.strOk z = true
def knownB (ps : List Str) : D → Bool
  | .str y => decide (y ∈ ps)
  | _ => false
theorem knownB_iff {ps : List Str} {d : D} : knownB ps d = true ↔ ∃ z, z ∈ ps ∧ d = .str z := by
  constructor
  · intro h
    cases d with
    | str y => exact ⟨y, of_decide_eq_true h, rfl⟩
    | _ => exact absurd h Bool.false_ne_true
  · rintro ⟨z, hz, rfl⟩
    exact decide_eq_true hz
theorem any_str {ps : List Str} {d : D} : ((ps.map PyData.str).any fun z => PyData.eqv z d) = knownB ps d := by
  rw [List.any_map, Bool.eq_iff_iff, List.any_eq_true, knownB_iff]
  constructor
  · rintro ⟨z, hz, e⟩
    refine ⟨z, hz, ?_⟩
    cases d with
    | str y =>
      have e : PyData.eqv (.str z) (.str y) = true := e
      rw [eqv_strs, decide_eq_true_eq] at e
      rw [e]
    | _ => exact absurd e Bool.false_ne_true
  · rintro ⟨z, hz, rfl⟩
    exact ⟨z, hz, by show PyData.eqv (.str z) (.str z) = true; rw [eqv_strs]; exact decide_eq_true rfl⟩
theorem inD_texts {ps : List Str} {d : D} (hd : El d) (hp : ∀ z ∈ ps, PyData.strOk z = true) : inD d (.list (ps.map .str)) = some (knownB ps d) := by
  have box : boxD d = true → dictIn d (ps.map .str) = true := fun h => by
    unfold dictIn
    rw [h, Bool.true_and, List.all_map]
    exact List.all_eq_true.mpr fun _ _ => rfl
  have hl := okEq_l (lay_strs hp)
  show (if okEq d = true ∧ okEq (.list (ps.map PyData.str)) = true then some ((ps.map PyData.str).any fun z => PyData.eqv z d) else if dictIn d (ps.map .str) = true then some false else none) = _
  by_cases h : okEq d = true
  · rw [if_pos ⟨h, hl⟩, any_str]
  · rw [if_neg fun q => h q.1]
    cases d with
    | str z => exact absurd (okEq_str (hd z rfl)) h
    | none => exact absurd rfl h
    | bool b => exact absurd rfl h
    | int i => exact absurd rfl h
    | _ =>
      rw [if_pos (box rfl)]
      rfl
theorem gIn_texts {ps : List Str} {d : D} (hd : El d) (hp : ∀ z ∈ ps, PyData.strOk z = true) : gIn d (.list (ps.map .str)) = some (.fr (.bool (knownB ps d))) := by
  unfold gIn; rw [inD_texts hd hp]; rfl
theorem gNotIn_texts {ps : List Str} {d : D} (hd : El d) (hp : ∀ z ∈ ps, PyData.strOk z = true) : gNotIn d (.list (ps.map .str)) = some (.fr (.bool (!knownB ps d))) := by
  unfold gNotIn; rw [inD_texts hd hp]; rfl
theorem inT_texts {ps : List Str} {y : Str} (hd : PyData.strOk y = true) (hp : ∀ z ∈ ps, PyData.strOk z = true) : inD (.str y) (.tuple (ps.map .str)) = some (decide (y ∈ ps)) := by
  show (if okEq (.str y) = true ∧ okEq (.tuple (ps.map PyData.str)) = true then some ((ps.map PyData.str).any fun z => PyData.eqv z (.str y)) else none) = _
  rw [if_pos ⟨okEq_str hd, okEq_t (lay_strs hp)⟩, any_str]
  rfl
theorem inL_texts {ps : List Str} {y : Str} (hd : PyData.strOk y = true) (hp : ∀ z ∈ ps, PyData.strOk z = true) : inD (.str y) (.list (ps.map .str)) = some (decide (y ∈ ps)) := by
  rw [inD_texts (fun z e => by cases e; exact hd) hp]
  rfl
end
/-- neighbours -/
def chain (zs : List Str) : Bool := (zs.zip (zs.drop 1)).all fun p => decide (slt p.1 p.2)
theorem chain_iff : ∀ zs : List Str, chain zs = true ↔ zs.Pairwise slt
  | [] => by simp [chain]
  | [a] => by simp [chain]
  | a :: b :: zs => by
    have ih := chain_iff (b :: zs)
    have e : chain (a :: b :: zs) = (decide (slt a b) && chain (b :: zs)) := rfl
    rw [e, Bool.and_eq_true, decide_eq_true_eq, ih, List.pairwise_cons (a := a)]
    constructor
    · rintro ⟨h1, h2⟩
      refine ⟨fun x hx => ?_, h2⟩
      rcases List.mem_cons.mp hx with e | hx
      · rw [e]; exact h1
      · exact rk_str.tr _ _ _ h1 ((List.pairwise_cons.mp h2).1 x hx)
    · rintro ⟨h1, h2⟩
      exact ⟨h1 b List.mem_cons_self, h2⟩
end FK

set_option Elab.async false
set_option linter.all false
set_option maxRecDepth 100000
set_option maxHeartbeats 2000000
/-! FK 40: {link: e}. -/
namespace FK
open PySem PySem.Spec PyProof.Rows L2
/-- {k: v}, k a tuple of ints and texts; the new dict stands empty while both are made -/
def tD1 (tk tv : TE) : TE := fun σ H Q => ∀ p, H p = none → tPairs [(tk, tv)] σ (upd H p (.dT [])) fun ps H2 => H2 p = some (.dT []) ∧ ∃ b ks y, ps = [(.ref b, y)] ∧ H2 b = some (.tup (ks.map kV)) ∧ Q (.ref p) (upd H2 p (.dT [(ks, y)]))
theorem pe_dispT {X : Cx} {pos : Pos} {k v : Expr} {tk tv : TE} (hu : X.A.units + 1 < cLine) (hk : PE X k tk) (hv : PE X v tv) : PE X (.Dict [some k] [v] pos) (tD1 tk tv) := by
  refine ⟨fun pins s σ H Q I q => ?_⟩
  have hn := I.hok.fresh (Nat.le_refl s.heap.objs.size)
  have I1 := I.laid (a := s.heap.objs.size) (o := .dT []) (h' := s.heap.push { cls := .type "dict", data := .dict #[] }) (t' := s.toks) (fun _ _ q => Heap.get?_push_of_some _ q) (Nat.le_refl _) (dt_empty s.heap I.big)
  rw [arm_eval_Dict, zip_pairTrees [some k] [v] X.env pos rfl rfl, dictDisplay_pairs (pairTrees [some k] [v] X.env pos) (by simp [pairTrees]) (by simp [pairTrees])]
  refine wpAny_bind (wpAny_standAt (wpAny_bind (wpAny_subDictH (knd := tupleKind (mixKind X.prog X.w)) (Q := fun d s' => wpAny (model X.prog X.w) X.A (pure (Value.ref d)) (EP X pins σ Q) X.xe s') (show (tupleKind (mixKind X.prog X.w)).room X.A from (show X.A.units < cLine by omega)) (by show (1 : Nat) ≤ 15; decide)
    (thn ((pps_cons hk hv pps_nil).run pins _ σ _ _ I1 (q _ hn)) fun ws s2 ⟨ps, H2, I2, rel, e, b, ks, y, ep, eb, q2⟩ => ?_))))
  subst ep
  cases rel with
  | @cons _ w0 _ wr h t =>
    cases t
    obtain ⟨u, r⟩ := w0
    obtain ⟨h1, h2⟩ := h
    cases (show u = Value.ref b from h1)
    obtain ⟨z, hd, xs, rel, dd⟩ := dt_of I2.hok e
    cases rel
    refine ⟨[(ks, b, r)], ⟨rfl, rfl, key_of I2.hok eb, True.intro⟩, dd, fun h' tk dd' hs => wpAny_pure ⟨.ref s.heap.objs.size, _, ?_, rfl, q2⟩⟩
    have e2 : storedAllH ([] : List (List Key × Addr × Value)) [(ks, b, r)] = [(ks, b, r)] := rfl
    rw [e2] at dd'
    obtain ⟨o, es, ep, hq, hc, hdat, he, _, hn2⟩ := dd'
    refine d_write I2 (by rw [e]; exact True.intro) hs ⟨o, hq⟩ ⟨by show 1 ≤ sizeLine; decide, hd, [(ks, b, r)], .cons ⟨rfl, ?_, h2⟩ .nil, o, es, ep, hq, hc, hdat, he, hn2⟩
    rw [upd_ne (ne_of eb e (fun z => nomatch z))]
    exact eb
/-- {k: v} -/
def sD1 (fk fv : SE) : SE := fun ρ => (fk ρ).frd fun x ρ1 => (fv ρ1).frd fun y ρ2 => match keyOfD x with
  | some _ => .ok (.ow (.dict [(x, y)])) ρ2
  | none => .bad
@[simp] theorem sD1_eq {fk fv : SE} {a0 : B} {ρ : Env} : sD1 fk fv (a0 :: ρ) = (fk (a0 :: ρ)).frd fun x ρ1 => (fv ρ1).frd fun y ρ2 => match keyOfD x with
  | some _ => .ok (.ow (.dict [(x, y)])) ρ2
  | none => .bad := rfl
section
variable {X : Cx} {T : Tx} {W : WX} {k v : Expr} {fk fv : SE} {pos : Pos}
theorem Aft.frdAt {γ δ : Type} {P' : γ → δ → Hp → Hp → Hp → (Nat → List Addr) → Prop} {Hz H Hz0 H0 : Hp} {F F0 : Nat → List Addr} {σ : L2.St} {r : RE} {kk : D → Env → Rs γ} {Q : δ → Hp → Prop} (h : Aft T W Hz H F σ P' (r.frd kk) Q) (s0 : Step Hz H F Hz0 H0 F0) :
    Aft T W Hz0 H0 F0 σ (PB T.K F0) r fun v H1 => ∃ Hz1 F1 d ρ1, Zone T.K Hz1 H1 σ ρ1 F1 ∧ Step Hz0 H0 F0 Hz1 H1 F1 ∧ Rep T.K Hz1 v d ∧ Aft T W Hz H F σ P' (kk d ρ1) Q := by
  cases r with
  | bad => exact h
  | exc x ρ' => exact fun cls d Hz' H' F' z st q => h cls d Hz' H' F' z (s0.trans st) q
  | ok b ρ' =>
    intro v Hz' H' F' z st p
    have h : Aft T W Hz H F σ P' (match frz b with
      | some d => kk d ρ'
      | none => .bad) Q := h
    cases e : frz b with
    | none => rw [e] at h; cases h
    | some d =>
      rw [e] at h
      obtain ⟨Hz2, z2, s2, r2⟩ := freeze e z st p
      exact ⟨Hz2, F', d, ρ', z2, s2, r2, h⟩
theorem e_dict1 (hu : X.A.units + 1 < cLine) (hk : PE X k (tE T W fk)) (hv : PE X v (tE T W fv)) : PE X (.Dict [some k] [v] pos) (tE T W (sD1 fk fv)) := by
  refine PE.mono (pe_dispT hu hk hv) fun σ H Q ⟨Hz, ρ, F, z, h⟩ p hp => ?_
  have s0 : Step Hz H F Hz (upd H p (.dT [])) F := .push0 hp
  have z0 := z.push0 (o := .dT []) hp
  have hno : ¬ Own F p := fun w => z.there w hp
  show tE T W fk σ (upd H p (.dT [])) _
  refine ⟨Hz, ρ, F, z0, Aft.imp (Aft.frdAt h s0) fun x H1 ⟨Hz1, F1, dx, ρ1, z1, s1, r1, q1⟩ => ?_⟩
  show tE T W fv σ H1 _
  refine ⟨Hz1, ρ1, F1, z1, Aft.imp (Aft.frdAt q1 (s0.trans s1)) fun y H2 ⟨Hz2, F2, dy, ρ2, z2, s2, r2, q2⟩ => ?_⟩
  cases hk : keyOfD dx with
  | none => rw [hk] at q2; cases q2
  | some ks =>
    rw [hk] at q2
    have st := s1.trans s2
    have all := s0.trans st
    have n1 : Hz p = none := z.sub.free hp
    have e0 : H2 p = some (.dT []) := st.fr p _ upd_same hno
    have hz2 : Hz2 p = none := by
      cases e : Hz2 p with
      | none => rfl
      | some o =>
        rcases st.nz p (by rw [e]; exact fun z => nomatch z) with w | w | w
        · exact absurd n1 w
        · rw [upd_same] at w; cases w
        · exact absurd w hno
    have no2 : ¬ Own F2 p := fun w => by
      rcases st.no p w with w | w
      · rw [upd_same] at w; cases w
      · exact hno w
    obtain ⟨b, rfl, eb, rfl⟩ := keyOf_some hk (r1.mono s2.z)
    refine ⟨e0, b, ks, y, rfl, z2.sub _ _ eb, ?_⟩
    have hq : Aft T W Hz H F σ (PB T.K F) (.ok (.ow (.dict [(keyT ks, dy)])) ρ2) Q := q2
    have nb : ∀ a, Own F2 a → a ≠ p := fun a ha w => no2 (w ▸ ha)
    have sub2 : Same Hz2 (upd H2 p (.dT [(ks, y)])) := fun a o e => by
      rw [upd_ne fun w => by subst w; rw [hz2] at e; cases e]; exact z2.sub a o e
    refine hq (.ref p) Hz2 _ F2 (z2.keep (.refl _) sub2 (fun a ha => upd_ne (nb a ha)) fun a ha => z2.notIn ha) ⟨all.z, fun a o e n => ?_, all.nz, all.no, fun a e => ?_⟩ ⟨[p], ⟨p, rfl, rfl, .inr ⟨[(ks, y)], upd_same, .cons r2 .nil⟩⟩, fun a ha => ?_⟩
    · rw [upd_ne fun w => by subst w; rw [hp] at e; cases e]; exact all.fr a o e n
    · by_cases c : a = p
      · subst c; rw [upd_same]; exact fun z => nomatch z
      · rw [upd_ne c]; exact all.dom a e
    · have c : a = p := by simpa using ha
      subst c
      exact ⟨hz2, no2, .inl hp⟩
theorem dict1_ {l m : List Nat} {kk : Nat} {cb : Bool} (C : Cxb cb X T W kk l m) (hk : PE X k (tE T W fk)) (hv : PE X v (tE T W fv)) : PE X (.Dict [some k] [v] pos) (tE T W (sD1 fk fv)) := e_dict1 (by have := C.un; omega) hk hv
end
end FK

set_option Elab.async false
set_option linter.all false
set_option maxRecDepth 100000
set_option maxHeartbeats 2000000
/-! FK 41: dicts: got from, put into, brought up to date. -/
namespace FK
open PySem PySem.Spec PyProof.Rows L2
/-! ### an empty dict is of either kind -/
section
variable {X : Cx} {pins : List (Addr × Obj)} {σ : L2.St} {H : Hp} {s : Shared} {a : Addr}
theorem toT (I : Inv X pins σ H s) (e : H a = some (.dK [])) : Inv X pins σ (upd H a (.dT [])) s := by
  obtain ⟨hd, dd⟩ := dk0 I.hok (.inl e)
  obtain ⟨o, es, ep, h1, h2, h3, h4, h5, h6⟩ := e_asT dd
  exact d_write (h' := s.heap) (t' := s.toks) I (by rw [e]; exact True.intro) (Heap.SameBut.refl _ _) ⟨o, h1⟩ ⟨by show 0 ≤ sizeLine; decide, hd, [], .nil, o, es, ep, h1, h2, h3, h4, h6⟩
theorem toK (I : Inv X pins σ H s) (e : H a = some (.dT [])) : Inv X pins σ (upd H a (.dK [])) s := by
  obtain ⟨hd, dd⟩ := dt0 I.hok (.inl e)
  obtain ⟨o, es, ep, h1, h2, h3, h4, h5, h6⟩ := e_asK dd
  exact d_write (h' := s.heap) (t' := s.toks) I (by rw [e]; exact True.intro) (Heap.SameBut.refl _ _) ⟨o, h1⟩ (dk_new (by show 0 ≤ sizeLine; decide) hd .nil ⟨o, es, ep, h1, h2, h3, h4, h5, h6⟩)
end
/-- the heap behind a[y] = v, an empty dict of either kind -/
def DPE (H : Hp) (a : Addr) (y v : V) (H' : Hp) : Prop :=
  DPut H a y v H' ∨ (∃ (b : Addr) (ks : List Key), H a = some (.dK []) ∧ y = .ref b ∧ H b = some (.tup (ks.map kV)) ∧ H' = upd H a (.dT [(ks, v)])) ∨ ∃ k : Key, H a = some (.dT []) ∧ y = kV k ∧ H' = upd H a (.dK [(k, v)])
theorem DPE.put {X : Cx} {pins : List (Addr × Obj)} {σ : L2.St} {H H' : Hp} {s : Shared} {a : Addr} {y v : V} (I : Inv X pins σ H s) (g : DPE H a y v H') : ∃ H0, Inv X pins σ H0 s ∧ DPut H0 a y v H' := by
  rcases g with g | ⟨b, ks, e, rfl, eb, rfl⟩ | ⟨k, e, rfl, rfl⟩
  · exact ⟨H, I, g⟩
  · refine ⟨_, toT I e, .inr ⟨[], ks, b, upd_same, rfl, ?_, by show 0 < sizeLine; decide, by rw [upd_upd]; rfl⟩⟩
    rw [upd_ne (ne_of eb e (fun z => nomatch z))]; exact eb
  · exact ⟨_, toK I e, .inl ⟨[], k, upd_same, rfl, by show 0 < sizeLine; decide, by rw [upd_upd]; rfl⟩⟩
def rSetD : TSet := fun o i v H Q => ∃ a H', o = .ref a ∧ DPE H a i v H' ∧ Q H'
theorem set_dict {X : Cx} (hu : X.A.units + 1 < cLine) : PSet X rSetD := by
  intro pins s σ H o i v ov iv u Q I ro ri rv ⟨a, H', e, g, q⟩
  subst e
  cases (show ov = Value.ref a from ro)
  obtain ⟨H0, I0, g0⟩ := g.put I
  exact d_setItem hu I0 g0 ri rv fun s' I' => ⟨H', I', q⟩
theorem RepP.len {K : Fg} {Hz : Hp} : ∀ {vs : List (D × V)} {ds : List (D × D)}, RepP K Hz vs ds → vs.length = ds.length
  | [], [], .nil => rfl
  | _ :: _, _ :: _, .cons _ t => by rw [List.length_cons, List.length_cons, t.len]
/-- a dict owned: put in -/
theorem put_ow {K : Fg} {Hz H : Hp} {a : Addr} {ps : List (D × D)} {y v : V} {x d : D} {c : KS} (hs : Same Hz H) (o : OwRep K Hz H a (.dict ps)) (ry : Rep K Hz y x) (rv : Rep K Hz v d) (hc : kOf x = some c) (hk : sameK c ps = true) (hl : ps.length < sizeLine) :
    ∃ ob, DPE H a y v (upd H a ob) ∧ OwRep K Hz (upd H a ob) a (.dict (dput ps x c d)) := by
  rcases o with ⟨kvs, e, r⟩ | ⟨kvs, e, r⟩
  · cases c with
    | inl k =>
      obtain ⟨rfl, rfl⟩ := kOf_inl hc ry
      have l := r.len
      rw [List.length_map] at l
      exact ⟨_, .inl (.inl ⟨kvs, k, e, rfl, by omega, rfl⟩), .inl ⟨_, upd_same, dput_K rv r⟩⟩
    | inr ks =>
      obtain ⟨b, rfl, eb, rfl⟩ := kOf_inr hc ry
      obtain ⟨rfl, rfl⟩ := same_K r hk
      exact ⟨_, .inr (.inl ⟨b, ks, e, rfl, hs _ _ eb, rfl⟩), .inr ⟨_, upd_same, .cons rv .nil⟩⟩
  · cases c with
    | inl k =>
      obtain ⟨rfl, rfl⟩ := kOf_inl hc ry
      obtain ⟨rfl, rfl⟩ := same_T r hk
      exact ⟨_, .inr (.inr ⟨k, e, rfl, rfl⟩), .inl ⟨_, upd_same, .cons rv .nil⟩⟩
    | inr ks =>
      obtain ⟨b, rfl, eb, rfl⟩ := kOf_inr hc ry
      have l := r.len
      rw [List.length_map] at l
      exact ⟨_, .inl (.inr ⟨kvs, ks, b, e, rfl, hs _ _ eb, by omega, rfl⟩), .inr ⟨_, upd_same, dput_T rv r (same_Tn r hk)⟩⟩
def owD (ρ : Env) (i : Nat) : Option (List (D × D)) := match ρ[i]? with
  | some (.ow (.dict ps)) => some ps
  | _ => none
theorem owD_some {ρ : Env} {i : Nat} {ps : List (D × D)} (h : owD ρ i = some ps) : ρ[i]? = some (.ow (.dict ps)) := by
  unfold owD at h
  split at h
  · rename_i e q; rw [q]; cases h; rfl
  · cases h
def putC (ps : List (D × D)) (k d : D) : Option (List (D × D)) := (kOf k).bind fun c => if sameK c ps = true ∧ ps.length < sizeLine then some (dput ps k c d) else none
/-- x[k] = v for an owned dict -/
def sPut (i : Nat) (fi fv : SE) : SS := fun ρ => (fv ρ).frS fun d ρ1 => if (owD ρ1 i).isSome = true then (fi ρ1).frS fun k ρ2 => match (owD ρ2 i).bind fun ps => putC ps k d with
  | some ps' => .nx (ρ2.set i (.ow (.dict ps')))
  | none => .bad else .bad
section
variable {X : Cx} {T : Tx} {W : WX} {P : List Nat} {e ix : Expr} {f fi : SE} {pos pos' p1 p2 : Pos}
theorem s_put {i : Nat} {x : Str} (hu : X.A.units + 1 < cLine) (hN : X.N[i]? = some x) (hv : Vis X.env.scope x) (hd : (x == ("__debug__" : Str)) = false) (hcd : (x == ("__classdict__" : Str)) = false) (he : PE X e (tE T W f)) (hi : PE X ix (tE T W fi))
    (hs : swapsWithSole [.Subscript (.Name x p1) ix p2] e pos.line X.env = pure false) (hw : swappedStores [.Subscript (.Name x p1) ix p2] e X.env = pure none)
    (ha : ∀ v, assign (.Subscript (.Name x p1) ix p2) X.env v = (do
      let ov ← holding [v] (eval (.Name x p1) X.env)
      let iv ← holding [v, ov] (eval ix X.env)
      standAt p2
      holding [v, ov, iv] (setItem ov iv v)
      release [v, ov, iv] [])) (h1 : (assignEach [.Subscript (.Name x p1) ix p2] X.env).map (·.2) = [assign (.Subscript (.Name x p1) ix p2) X.env]) :
    PS X (.Assign [.Subscript (.Name x p1) ix p2] e pos) (tS T W P (sPut i fi f)) := by
  refine PS.mono (ps_asg he (pg_sub (pe_var hN hv hd hcd) hi (set_dict hu) ha) hs hw h1) fun D σ H ⟨Hz, ρ, F, z, h⟩ => ⟨Hz, ρ, F, z, Aft.imp (AftS.frS h) fun v H1 ⟨Hz1, F1, d, ρ1, z1, s1, r1, q1⟩ => ?_⟩
  by_cases ho : (owD ρ1 i).isSome = true
  · rw [if_pos ho] at q1
    obtain ⟨ds, hds⟩ := Option.isSome_iff_exists.mp ho
    obtain ⟨a, ha', hf, o1⟩ := z1.owned (owD_some hds)
    refine ⟨.ref a, ha', Hz1, ρ1, F1, z1, Aft.imp (AftS.frS q1) fun u H2 ⟨Hz2, F2, k, ρ2, z2, s2, r2, q2⟩ => ?_⟩
    cases ho2 : owD ρ2 i with
    | none => rw [ho2] at q2; cases q2
    | some ps2 =>
      rw [ho2] at q2
      obtain ⟨a2, ha2, hf2, o3⟩ := z2.owned (owD_some ho2)
      rw [ha'] at ha2; cases ha2
      have q2 : AftS T W P Hz2 H2 F2 σ (match putC ps2 k d with
        | some ps' => .nx (ρ2.set i (.ow (.dict ps')))
        | none => .bad) D := q2
      unfold putC at q2
      cases hc : kOf k with
      | none => rw [hc] at q2; cases q2
      | some c =>
        rw [hc] at q2
        by_cases hk : sameK c ps2 = true ∧ ps2.length < sizeLine
        · have q2 : AftS T W P Hz2 H2 F2 σ (match (if sameK c ps2 = true ∧ ps2.length < sizeLine then some (dput ps2 k c d) else none) with
            | some ps' => .nx (ρ2.set i (.ow (.dict ps')))
            | none => .bad) D := q2
          rw [if_pos hk] at q2
          obtain ⟨ob, g, o4⟩ := put_ow z2.sub o3 r2 (r1.mono s2.z) hc hk.1 hk.2
          refine ⟨a, _, rfl, g, ?_⟩
          exact q2 σ Hz2 _ F2 (z2.write (owD_some ho2) ha' hf2 o4) (.write ⟨i, by rw [hf2]; simp⟩) (.refl _ _)
        · have q2 : AftS T W P Hz2 H2 F2 σ (match (if sameK c ps2 = true ∧ ps2.length < sizeLine then some (dput ps2 k c d) else none) with
            | some ps' => .nx (ρ2.set i (.ow (.dict ps')))
            | none => .bad) D := q2
          rw [if_neg hk] at q2
          cases q2
  · rw [if_neg ho] at q1; cases q1
end
/-! ### d.get(k, x) -/
def isDc : D → Bool
  | .dict _ => true
  | _ => false
def gGet2 (x k d : D) : Option B := match x with
  | .dict ps => (kOf k).bind fun c => if sameK c ps = true then some (.fr ((dget ps c).getD d)) else none
  | _ => none
def sGet2 (fo fk fd : SE) : SE := fun ρ => (fo ρ).frd fun x ρ1 => if isDc x = true then (fk ρ1).frd fun k ρ2 => (fd ρ2).frd fun d ρ3 => lft (gGet2 x k d) ρ3 else .bad
def tGet2 (td ty tx : TE) : TE := fun σ H Q => td σ H fun x H1 => ∃ a, x = .ref a ∧ IsD H1 a ∧ ty σ H1 fun y H2 => tx σ H2 fun z H3 => ∃ o, DG H3 a y o ∧ Q (o.getD z) H3
section
variable {X : Cx} {T : Tx} {W : WX} {o e f : Expr} {apos cpos : Pos} {td ty tx : TE} {fo fk fd : SE}
theorem pe_get2 (hu : X.A.units + 1 < cLine) (ho : PE X o td) (he : PE X e ty) (hf : PE X f tx) (m : M2 X o "get" apos e f cpos) : PE X (.Call (.Attribute o "get" apos) [e, f] [] cpos) (tGet2 td ty tx) := by
  refine ⟨fun pins s σ H Q I h => ?_⟩
  refine wpAny_Call_method m.base m.few m.line PySem.F.plainAttrs_dict PySem.F.slot_dict_get PySem.F.type_dict_get (thn (ho.run pins s σ H _ I h) fun u s1 ⟨x, H1, I1, rx, a, ex, d, q1⟩ => ?_)
  subst ex
  obtain rfl : u = Value.ref a := rx
  obtain ⟨t1, t2, _⟩ := isD_at I1 d
  refine ⟨t1, t2, ?_⟩
  rw [m.trees]
  exact Calls.callWith_builtin rfl (Calls.evalArgs_plain (Calls.spliced_cons (thn (he.run pins s1 σ H1 _ I1 q1) fun iv s2 ⟨y, H2, I2, ry, q2⟩ =>
    Calls.spliced_cons (thn (hf.run pins s2 σ H2 _ I2 q2) fun fv s3 ⟨z, H3, I3, rz, ov, g, q3⟩ => Calls.spliced_nil (g_get2 hu I3 g ry rz fun w' s4 I4 rw' => ⟨_, H3, I4, rw', q3⟩)))))
theorem rep_isD {K : Fg} {Hz H : Hp} {x : V} {ps : List (D × D)} (hs : Same Hz H) (r : Rep K Hz x (.dict ps)) : ∃ a, x = .ref a ∧ IsD H a := by
  cases r with
  | @dK a kvs _ h k => exact ⟨a, rfl, .inl ⟨_, rd_same hs h⟩⟩
  | @dT a kvs _ h k => exact ⟨a, rfl, .inr ⟨_, rd_same hs h⟩⟩
theorem e_get2 (hu : X.A.units + 1 < cLine) (ho : PE X o (tE T W fo)) (he : PE X e (tE T W fk)) (hf : PE X f (tE T W fd)) (m : M2 X o "get" apos e f cpos) : PE X (.Call (.Attribute o "get" apos) [e, f] [] cpos) (tE T W (sGet2 fo fk fd)) := by
  refine PE.mono (pe_get2 hu ho he hf m) fun σ H Q ⟨Hz, ρ, F, z, h⟩ => ?_
  refine ⟨Hz, ρ, F, z, Aft.imp (Aft.frd h) fun v H1 ⟨Hz1, F1, x, ρ1, z1, s1, r1, q1⟩ => ?_⟩
  cases x with
  | dict ps =>
    obtain ⟨a, rfl, hD⟩ := rep_isD z1.sub r1
    have q1 := q1.fromB s1
    refine ⟨a, rfl, hD, Hz1, ρ1, F1, z1, Aft.imp (Aft.frd q1) fun y H2 ⟨Hz2, F2, k, ρ2, z2, s2, r2, q2⟩ => ?_⟩
    have q2 := q2.fromB s2
    refine ⟨Hz2, ρ2, F2, z2, Aft.imp (Aft.frd q2) fun w H3 ⟨Hz3, F3, d, ρ3, z3, s3, r3, q3⟩ => ?_⟩
    have q3 := q3.fromB s3
    unfold gGet2 at q3
    cases hc : kOf k with
    | none => rw [hc] at q3; cases q3
    | some c =>
      rw [hc] at q3
      by_cases hk : sameK c ps = true
      · have q3 : Aft T W Hz3 H3 F3 σ (PB T.K F3) (lft (if sameK c ps = true then some (B.fr ((dget ps c).getD d)) else none) ρ3) Q := q3
        rw [if_pos hk] at q3
        obtain ⟨a', o, ea, _, dg, ro⟩ := dg_of z3.sub (r1.mono (s2.trans s3).z) (r2.mono s3.z) hc hk
        cases ea
        refine ⟨o, dg, Aft.made q3 z3 (.here z3.sub ?_)⟩
        rcases ro with ⟨v, dd, h1, h2, h3⟩ | ⟨h1, h2⟩
        · rw [h1, h2]; exact h3
        · rw [h1, h2]; exact r3
      · have q3 : Aft T W Hz3 H3 F3 σ (PB T.K F3) (lft (if sameK c ps = true then some (B.fr ((dget ps c).getD d)) else none) ρ3) Q := q3
        rw [if_neg hk] at q3
        cases q3
  | _ => cases q1
end
/-! ### d.update(e), texts as keys -/
def allE (ps : List (D × D)) : Bool := ps.all fun p => (keyE p.1).isSome
def dmerge (ps qs : List (D × D)) : List (D × D) := qs.foldl (fun acc p => match keyE p.1 with
  | some k => dput acc p.1 (.inl k) p.2
  | none => acc) ps
theorem allE_T {K : Fg} {Hz : Hp} : ∀ {kvs : List (List Key × V)} {ps : List (D × D)}, RepP K Hz (kvs.map fun p => (keyT p.1, p.2)) ps → allE ps = true → kvs = [] ∧ ps = []
  | [], [], .nil, _ => ⟨rfl, rfl⟩
  | (j, v) :: kvs, (x, d) :: ps, h, hs => by
    cases h with
    | cons r t =>
      unfold allE at hs
      rw [List.all_cons] at hs
      cases hs
theorem dmerge_K {K : Fg} {Hz : Hp} : ∀ {more : List (Key × V)} {qs : List (D × D)} {kvs : List (Key × V)} {ps : List (D × D)}, RepP K Hz (kvs.map fun p => (keyD p.1, p.2)) ps → RepP K Hz (more.map fun p => (keyD p.1, p.2)) qs → RepP K Hz ((mergeK kvs more).map fun p => (keyD p.1, p.2)) (dmerge ps qs)
  | [], [], kvs, ps, h, .nil => h
  | (j, v) :: more, (x, d) :: qs, kvs, ps, h, w => by
    cases w with
    | cons r t =>
      show RepP K Hz ((mergeK (putK kvs j v) more).map fun p => (keyD p.1, p.2)) (dmerge (match keyE (keyD j) with
        | some k => dput ps (keyD j) (.inl k) d
        | none => ps) qs)
      rw [keyE_keyD]
      exact dmerge_K (dput_K r h) t
def rUpd : V → List V → Hp → VK → Prop := fun x xs H Q => ∃ (a b : Addr) (kvs more : List (Key × V)), x = .ref a ∧ xs = [.ref b] ∧ a ≠ b ∧ (H a = some (.dK kvs) ∨ (kvs = [] ∧ H a = some (.dT []))) ∧ (Rd H b (.dK more) ∨ (more = [] ∧ Rd H b (.dT []))) ∧
  kvs.length + more.length ≤ sizeLine ∧ Q .non (upd H a (.dK (mergeK kvs more)))
theorem mt_update {X : Cx} : MtR X "dict.update" rUpd := by
  intro pins s σ H x xs v us Q I rx rxs ⟨a, b, kvs, more, e1, e2, hab, ha, hb, hl, q⟩
  subst e1 e2
  cases (show v = Value.ref a from rx)
  obtain ⟨u, rfl, ru⟩ := rxs.one
  cases (show u = Value.ref b from ru)
  have core : ∀ {H0 : Hp}, Inv X pins σ H0 s → H0 a = some (.dK kvs) → upd H0 a (.dK (mergeK kvs more)) = upd H a (.dK (mergeK kvs more)) → wpAny (model X.prog X.w) X.A (call (.builtin "dict.update") [.ref a, .ref b]) (EP X pins σ Q) X.xe s := by
    intro H0 I0 ea eu
    obtain ⟨z, hd, vs, rel, dd⟩ := dk_of I0.hok ea
    obtain ⟨hdb, ws, relb, ddb⟩ : (b == sysModules) = false ∧ ∃ ws, KV more ws ∧ s.heap.DictOf (mixKind X.prog X.w) b ws := by
      rcases hb with hb | ⟨rfl, hb⟩
      · obtain ⟨_, h1, ws, h2, h3⟩ := dk_rd I.hok hb
        exact ⟨h1, ws, h2, h3⟩
      · obtain ⟨h1, h2⟩ := dt0 I.hok hb
        exact ⟨h1, [], .nil, e_asK h2⟩
    refine call_meetsIn PySem.F.slot_dict_update dd.typeIs PySem.F.entry_dict_update (PySem.F.args_dict_update_2 _ _) (meets_dict_update (mixKind X.prog X.w) a b hab hdb)
      ⟨vs, ws, dd, ddb, by rw [← rel.length, ← relb.length]; exact hl, fun h' dd' _ hs => ?_⟩
    refine ⟨.non, _, ?_, rfl, q⟩
    rw [← eu]
    have ll := length_mergeK more kvs
    refine d_write I0 (by rw [ea]; exact True.intro) hs ?_ (dk_new (by omega) hd (KV.merge relb rel) dd')
    obtain ⟨o, _, _, ho, _⟩ := dd'
    exact ⟨o, ho⟩
  rcases ha with ha | ⟨rfl, ha⟩
  · exact core I ha rfl
  · exact core (toK I ha) upd_same (by rw [upd_upd])
/-- x.update(e) -/
def sUpd (i : Nat) (f : SE) : SS := fun ρ => if (owD ρ i).isSome = true then (f ρ).frS fun x ρ1 => match x, owD ρ1 i with
  | .dict qs, some ps => if allE ps = true ∧ allE qs = true ∧ ps.length + qs.length ≤ sizeLine then .nx (ρ1.set i (.ow (.dict (dmerge ps qs)))) else .bad
  | _, _ => .bad else .bad
section
variable {X : Cx} {T : Tx} {W : WX} {P : List Nat} {e ix : Expr} {f fi : SE} {pos pos' p1 p2 : Pos}
theorem s_upd {i : Nat} {x : Str} {apos cpos : Pos} (hN : X.N[i]? = some x) (hv : Vis X.env.scope x) (hd : (x == ("__debug__" : Str)) = false) (hcd : (x == ("__classdict__" : Str)) = false) (he : PE X e (tE T W f))
    (hfew : ((backTo cpos (starEach [e] X.env)).all (fun x => !x.1) && (backToKw cpos (keywordEach [] X.env)).all (fun x => x.1.isSome) && decide ([e].length + ([] : List Keyword).length + (if ([] : List Keyword).isEmpty then 0 else 1) < 30)) = true)
    (hline : (apos.endLine == cpos.line) = true) (hs : starEach [e] X.env = (false, eval e X.env) :: starEach [] X.env) (hbase : attributeBase (.Name x p1) "update" X.env (eval (.Name x p1) X.env) = eval (.Name x p1) X.env)
    (hsw : swapsWith (.Call (.Attribute (.Name x p1) "update" apos) [e] [] cpos) none pos.line X.env = pure false) :
    PS X (.Expr (.Call (.Attribute (.Name x p1) "update" apos) [e] [] cpos) pos) (tS T W P (sUpd i f)) := by
  refine PS.mono (ps_expr (pe_bm PySem.F.plainAttrs_dict PySem.F.slot_dict_update PySem.F.type_dict_update mt_update (pe_var hN hv hd hcd) (pa_cons he pa_nil hs) hbase hfew hline hs (by rfl)) hsw) fun D σ H ⟨Hz, ρ, F, z, h⟩ => ?_
  unfold sUpd at h
  by_cases ho : (owD ρ i).isSome = true
  · rw [if_pos ho] at h
    obtain ⟨ps0, hps⟩ := Option.isSome_iff_exists.mp ho
    obtain ⟨a, ha, hf, o1⟩ := z.owned (owD_some hps)
    refine ⟨.ref a, ha, .inr (.inr (.inl ⟨rfl, ?_⟩)), Hz, ρ, F, z, Aft.imp (AftS.frS h) fun v H1 ⟨Hz1, F1, d, ρ1, z1, s1, r1, q1⟩ => ?_⟩
    · rcases o1 with ⟨k, e1, _⟩ | ⟨k, e1, _⟩
      · exact .inl ⟨_, e1⟩
      · exact .inr ⟨_, e1⟩
    · cases d with
      | dict qs =>
        cases ho1 : owD ρ1 i with
        | none => rw [ho1] at q1; cases q1
        | some ps =>
          rw [ho1] at q1
          obtain ⟨a1, ha1, hf1, o3⟩ := z1.owned (owD_some ho1)
          rw [ha] at ha1; cases ha1
          have hza : Hz1 a = none := z1.out i a (by rw [hf1]; simp)
          by_cases hl : allE ps = true ∧ allE qs = true ∧ ps.length + qs.length ≤ sizeLine
          · simp only [hl, and_self, if_true] at q1
            obtain ⟨b, more, rfl, hb, rb, hbz⟩ : ∃ (b : Addr) (more : List (Key × V)), v = .ref b ∧ (Rd H1 b (.dK more) ∨ (more = [] ∧ Rd H1 b (.dT []))) ∧ RepP T.K Hz1 (more.map fun p => (keyD p.1, p.2)) qs ∧ Hz1 b ≠ none := by
              cases r1 with
              | @dK b kvs _ h k => exact ⟨b, kvs, rfl, .inl (rd_same z1.sub h), k, by rcases h with h | ⟨_, h⟩ <;> rw [h] <;> exact fun w => nomatch w⟩
              | @dT b kvs _ h k =>
                obtain ⟨rfl, rfl⟩ := allE_T k hl.2.1
                exact ⟨b, [], rfl, .inr ⟨rfl, rd_same z1.sub h⟩, .nil, by rcases h with h | ⟨_, h⟩ <;> rw [h] <;> exact fun w => nomatch w⟩
            obtain ⟨kvs, hA, ra⟩ : ∃ kvs : List (Key × V), (H1 a = some (.dK kvs) ∨ (kvs = [] ∧ H1 a = some (.dT []))) ∧ RepP T.K Hz1 (kvs.map fun p => (keyD p.1, p.2)) ps := by
              rcases o3 with ⟨k, e1, r⟩ | ⟨k, e1, r⟩
              · exact ⟨k, .inl e1, r⟩
              · obtain ⟨rfl, rfl⟩ := allE_T r hl.1
                exact ⟨[], .inr ⟨rfl, e1⟩, .nil⟩
            have l1 := ra.len
            have l2 := rb.len
            rw [List.length_map] at l1 l2
            refine ⟨a, b, kvs, more, rfl, rfl, fun w => by subst w; exact hbz hza, hA, hb, by have := hl.2.2; omega, ?_⟩
            exact q1 σ Hz1 _ F1 (z1.write (owD_some ho1) ha hf1 (.inl ⟨_, upd_same, dmerge_K ra rb⟩)) (.write ⟨i, by rw [hf1]; simp⟩) (.refl _ _)
          · have q1 : AftS T W P Hz1 H1 F1 σ (if allE ps = true ∧ allE qs = true ∧ ps.length + qs.length ≤ sizeLine then .nx (ρ1.set i (.ow (.dict (dmerge ps qs)))) else .bad) D := q1
            rw [if_neg hl] at q1; cases q1
      | _ => cases q1
  · rw [if_neg ho] at h; cases h
end
end FK

set_option Elab.async false
set_option linter.all false
set_option maxRecDepth 100000
set_option maxHeartbeats 2000000
/-! FK 42: dict comprehensions, keys of either kind. -/
namespace FK
open PySem PySem.Spec PyProof.Rows L2
theorem g_dictSet {X : Cx} {pins : List (Addr × Obj)} {σ : L2.St} {H H' : Hp} {s : Shared} {E : Value → Shared → Prop} {D : Addr} {y v : V} {u r : Value} {Q : Unit → Shared → Prop} (hu : X.A.units + 1 < cLine) (I : Inv X pins σ H s) (g : DPE H D y v H')
    (ry : RelV y u) (rv : RelV v r) (h : ∀ s', Inv X pins σ H' s' → Q () s') : wpAny (model X.prog X.w) X.A (dictSet D u r) Q E s := by
  obtain ⟨H0, I0, g0⟩ := g.put I
  rcases g0 with ⟨kvs, k, e, rfl, l, rfl⟩ | ⟨kvs, k, b, e, rfl, eb, l, rfl⟩
  · exact d_dictSet I0 e l ry rv h
  · cases (show u = Value.ref b from ry)
    obtain ⟨z, hd, xs, rel, dd⟩ := dt_of I0.hok e
    have hz : xs.length ≤ sizeLine := by rw [← Paired.length rel]; exact z
    have hl : (putK kvs k v).length ≤ sizeLine := by have := length_putK kvs k v; omega
    refine wpAny_dictSet_heap (hsz := hz) (show (tupleKind (mixKind X.prog X.w)).room X.A from (show X.A.units < cLine by omega)) (key_of I0.hok eb) dd fun h' dd' hs => h _ ?_
    obtain ⟨q, es, ep, hq, h2, h3, h4, _, h5⟩ := dd'
    refine d_write I0 (by rw [e]; exact True.intro) hs ⟨q, hq⟩ ⟨hl, hd, _, (rel.put k eb rv).keeps fun c ys ec => ?_, q, es, ep, hq, h2, h3, h4, h5⟩
    rw [upd_ne (ne_of ec e (fun z => nomatch z))]
    exact ec
section
variable {X : Cx}
/-- {k: v for target in iter if ..}, D the new dict -/
def tDx (wi : TI) (g : TG) (tt : TT) (tk tv : TE) (vs : List Nat) : TE := fun σ H Q => wi σ H fun J H1 => ∀ D, H1 D = none → ∃ W : Nat → Nat → Hp → Prop, (∃ m, W 0 m (upd H1 D (.dK []))) ∧ ∀ i m H, W i m H →
  (J.stop i H ∧ Q (.ref D) H) ∨ (J.go i H ∧ ∃ Nx : Hp → Prop, (∀ H', Nx H' → ∃ m', m' < m ∧ W (i + 1) m' H') ∧ ∀ x H', J.yld i H x H' → g x (L2.wipe σ vs) H' fun σ2 H2 => L2.wipe σ2 vs = L2.wipe σ vs ∧ tt σ2 H2 fun b H3 =>
    if b = true then tk σ2 H3 fun y H4 => tv σ2 H4 fun z H5 => ∃ H6, DPE H5 D y z H6 ∧ Nx H6 else Nx H3)
theorem dx_core {pins : List (Addr × Obj)} {s : Shared} {σ : L2.St} {H : Hp} {Q : VK} {kx vx tg iter : Expr} {ifs : List Expr} {scope : Scope} {own : List (Str × Nat)} {pos pos' : Pos} {wi : TI} {g : TG} {tt : TT} {tk tv : TE} {use : Option (Value → Sem Unit)} {Qf : Value → Shared → Prop}
    (hu : X.A.units + 1 < cLine) (hc : X.calm = true) (hN : X.N.Nodup) (I : Inv X pins σ H s) (hi : PI X tg iter wi) (ok : BlkOk X.N X.env.scope scope own)
    (hg : ∀ (s : Shared) (H : Hp) (C : Addr) (cl : List (Str × Addr)) (fp : List Addr), PG (X.blk s H scope (compEnvC scope cl C X.env) fp) tg g) (ht : ∀ (s : Shared) (H : Hp) (C : Addr) (cl : List (Str × Addr)) (fp : List Addr), PTs (X.blk s H scope (compEnvC scope cl C X.env) fp) ifs tt)
    (hk : ∀ (s : Shared) (H : Hp) (C : Addr) (cl : List (Str × Addr)) (fp : List Addr), PE (X.blk s H scope (compEnvC scope cl C X.env) fp) kx tk)
    (he : ∀ (s : Shared) (H : Hp) (C : Addr) (cl : List (Str × Addr)) (fp : List Addr), PE (X.blk s H scope (compEnvC scope cl C X.env) fp) vx tv) (hs : ∀ x, foldedSetIterable iter X.env x = pure x)
    (h : tDx wi g tt tk tv (own.map (·.2)) σ H Q)
    (hRR : ∀ D C s' m H', Inv X pins σ H' s' → Q (.ref D) H' → s'.heap.Ns C m → FpOk X pins H' C → compPost (model X.prog X.w) X.A X.xe use Qf (.ref D) C (.ok .next) s') :
    wpAny (model X.prog X.w) X.A (comprehension (.DictComp kx vx [⟨tg, iter, ifs, 0⟩] scope pos) scope X.env pos' newDict false (eval iter X.env) use) Qf X.xe s := by
  have hfree : ∀ y ∈ scope.names, y.2 = .free → ∃ c, X.env.cells.lookup y.1 = some c := fun y hy e => by
    rcases ok.free y hy e with k | k
    · exact I.ok.has _ (.inl k)
    · exact I.ok.has _ (.inr k)
  refine wpAny_comprehension_free (use := use) rfl hs (closure_ok hfree) ok.kind (fun y hy e => by rw [ok.uniq y hy, e])
    (thn (hi.run pins s σ H _ I h) fun xv s1 hx => thn hx fun itv s2 h2 => ?_)
  obtain ⟨it, fp, tn, J, H2, e, I2, T, st2, f2, q⟩ := h2
  subst e
  refine wpAny_newObj_type (newEnv_comp ?_)
  generalize hD : s2.heap.objs.size = D
  have hDn : H2 D = none := I2.hok.fresh (Nat.le_of_eq hD)
  obtain ⟨W, ⟨m0, w0⟩, turn⟩ := q D hDn
  -- the new list
  generalize hs3 : ({ s2 with heap := s2.heap.push { cls := .type "dict", data := .dict #[] } } : Shared) = s3
  have I3 : Inv X pins σ (upd H2 D (.dK [])) s3 := by
    rw [← hs3]
    refine I2.laid (t' := s2.toks) (fun b o e => Heap.get?_push_of_some _ e) (Nat.le_of_eq hD) ?_
    rw [← hD]
    exact dk_empty s2.heap I2.big
  have h3 : s3.heap = s2.heap.push { cls := .type "dict", data := .dict #[] } := by rw [← hs3]
  have sz : ∀ b ∈ fp, b < s2.heap.objs.size := fun b hb => by
    obtain ⟨o, e, _⟩ := T.obj _ _ st2 b hb
    exact Heap.lt_size e
  have f3 : ∀ b ∈ fp, FpOk X pins (upd H2 D (.dK [])) b ∧ b < s3.heap.objs.size := fun b hb => by
    have hlt := sz b hb
    refine ⟨⟨?_, (f2 b hb).2⟩, by rw [h3, Heap.size_push]; exact Nat.lt_succ_of_lt hlt⟩
    rw [upd_ne (by rw [← hD]; exact Nat.ne_of_lt hlt)]
    exact (f2 b hb).1
  have st3 : tn 0 s3.heap := T.keep _ _ _ st2 fun b _ o e => by rw [h3]; exact Heap.get?_push_of_some _ e
  have I4 := block_start I3 ok hN f3
  have pg := hg s3 (upd H2 D (.dK [])) s3.heap.objs.size (cellsFrom (s3.heap.objs.size + 1) scope.names (cloFrom X.env.cells scope.names [])) fp
  have pt := ht s3 (upd H2 D (.dK [])) s3.heap.objs.size (cellsFrom (s3.heap.objs.size + 1) scope.names (cloFrom X.env.cells scope.names [])) fp
  have pk := hk s3 (upd H2 D (.dK [])) s3.heap.objs.size (cellsFrom (s3.heap.objs.size + 1) scope.names (cloFrom X.env.cells scope.names [])) fp
  have pe := he s3 (upd H2 D (.dK [])) s3.heap.objs.size (cellsFrom (s3.heap.objs.size + 1) scope.names (cloFrom X.env.cells scope.names [])) fp
  show codeAny _ _ (.compStart (.DictComp kx vx [⟨tg, iter, ifs, 0⟩] scope pos) 0 (.ref it) (.ref D) (compEnvC scope (cellsFrom (s3.heap.objs.size + 1) scope.names (cloFrom X.env.cells scope.names [])) s3.heap.objs.size X.env)) (compPost (model X.prog X.w) X.A X.xe use Qf (.ref D) s3.heap.objs.size) { s3 with heap := pushCells (s3.heap.push { cls := .type "dict", data := .dict #[] }) scope.names }
  have nfp : ∀ b ∈ fp, (upd H2 D (.dK [])) b = none := fun b hb => (f3 b hb).1.1
  generalize hce : compEnvC scope (cellsFrom (s3.heap.objs.size + 1) scope.names (cloFrom X.env.cells scope.names [])) s3.heap.objs.size X.env = ce at I4 pg pt pk pe ⊢
  have cL : ce.locals = s3.heap.objs.size := by subst hce; rfl
  generalize hH3 : upd H2 D (.dK []) = H3 at I3 I4 pg pt pk pe w0 nfp f3
  generalize hs4 : ({ s3 with heap := pushCells (s3.heap.push { cls := .type "dict", data := .dict #[] }) scope.names } : Shared) = s4 at I4 ⊢
  have st4 : tn 0 s4.heap := T.keep _ _ _ st3 fun b _ o e => by rw [← hs4]; exact pushCells_keeps _ _ _ _ (Heap.get?_push_of_some _ e)
  have stat : ∀ {σ' : L2.St} {H' : Hp} {s' : Shared}, Inv (X.blk s3 H3 scope ce fp) [] σ' H' s' → (∀ b ∈ fp, H' b = none) → ∀ b ∈ fp, FpOk (X.blk s3 H3 scope ce fp) [] H' b := fun {σ' H' s'} I' hn b hb =>
    ⟨hn b hb, (I'.ok.exf b hb).1, I'.ok.exfs b hb, .inl hb, fun x c e => (I'.ok.exf b hb).2 x c e, fun p hp => absurd (show p ∈ ([] : List (Addr × Obj)) ++ [] from hp) (by simp)⟩
  have loop : codeAny (model X.prog X.w) X.A (.compLoop (.DictComp kx vx [⟨tg, iter, ifs, 0⟩] scope pos) 0 (.ref it) (.ref D) ce) (compPost (model X.prog X.w) X.A X.xe use Qf (.ref D) s3.heap.objs.size) s4 := by
    refine compLoop_anyD (fun n s' => ∃ i H', Inv (X.blk s3 H3 scope ce fp) [] (L2.wipe σ (own.map (·.2))) H' s' ∧ tn i s'.heap ∧ (∀ b ∈ fp, H' b = none) ∧ W i n H') ?_ m0 ⟨0, H3, I4, st4, nfp, w0⟩
    rintro n s5 ⟨i, H5, I5, st5, n5, w5⟩
    rcases turn i n H5 w5 with ⟨stop, qq⟩ | ⟨go, Nx, hNx, step⟩
    · have td := T.done (X.blk s3 H3 scope ce fp) rfl rfl rfl hc i [] s5 _ H5 (fun _ _ => False) I5 (stat I5 n5) st5 stop
      refine thnF td fun r s6 ⟨hr, I6⟩ => ?_
      subst hr
      -- back in the def's context
      have I7 : Inv X pins σ H5 s6 := I3.call' (ch := fp) I6.os I6.base I6.hok I6.bare fun b hb => ⟨(f3 b hb).1.2.2.2.1, (f3 b hb).1.2.1, (f3 b hb).1.2.2.2.2.1, (f3 b hb).1.2.2.2.2.2⟩
      have nC : H5 s3.heap.objs.size = none := by
        have z : H5 ce.locals = none := I6.free
        rw [cL] at z
        exact z
      obtain ⟨m, hn, _⟩ := I6.loc
      have hn : s6.heap.Ns ce.locals m := hn
      rw [cL] at hn
      exact hRR D s3.heap.objs.size s6 m H5 I7 qq hn (I3.fpOk (Nat.le_refl _) nC)
    · have ti := T.item (X.blk s3 H3 scope ce fp) rfl rfl rfl hc i [] s5 _ H5 (fun _ _ => False) I5 (stat I5 n5) st5 go
      refine thnF ti fun r s6 ⟨u, hr, h6⟩ => ?_
      subst hr
      refine thnF h6 fun _ s7 ⟨x, H7, I7, r7, y7, st7, n7⟩ => ?_
      have I7' := I7.pinned (stat I7 n7) (T.obj _ _ st7)
      refine thnF (pg.run _ s7 _ H7 x u _ I7' r7 (step x H7 y7)) fun _ s8 ⟨σ8, H8, I8, hw8, q8⟩ => ?_
      refine thnF (pt.run _ s8 σ8 H8 _ I8 q8) fun b s9 ⟨H9, I9, q9⟩ => ?_
      -- the turn's end
      have fin : ∀ {s' : Shared} {H' : Hp}, Inv (X.blk s3 H3 scope ce fp) ([] ++ pinsAt fp s7.heap) σ8 H' s' → Nx H' → ∃ m, m < n ∧ ∃ i H', Inv (X.blk s3 H3 scope ce fp) [] (L2.wipe σ (own.map (·.2))) H' s' ∧ tn i s'.heap ∧ (∀ b ∈ fp, H' b = none) ∧ W i m H' := fun {s' H'} I' nx => by
        obtain ⟨m', hm, w'⟩ := hNx H' nx
        have pin' : ∀ b ∈ fp, ∀ o, s7.heap.get? b = some o → s'.heap.get? b = some o ∧ H' b = none := fun b hb o e =>
          let z := I'.pin (b, o) (List.mem_append_right _ (List.mem_append_right _ (mem_pinsAt hb e)))
          ⟨z.1, z.2.1⟩
        have hl : (L2.wipe σ (own.map (·.2))).length = σ8.length := by rw [← hw8, wipe_length]
        refine ⟨m', hm, i + 1, H', (I'.unpinned (pins := [])).weak hl (fun j v e => ?_), T.keep _ _ _ st7 fun b hb o e => (pin' b hb o e).1, fun b hb => ?_, w'⟩
        · rw [← hw8] at e
          exact (wipe_some e).1
        · obtain ⟨o, e, _⟩ := T.obj _ _ st7 b hb
          exact (pin' b hb o e).2
      cases b with
      | false =>
        simp only [Bool.false_eq_true, if_false] at q9 ⊢
        exact fin I9 q9
      | true =>
        simp only [if_true] at q9 ⊢
        refine thnF (pk.run _ s9 σ8 H9 _ I9 q9) fun z s10 ⟨yk, H10, I10, r10, q10⟩ => ?_
        refine thnF (pe.run _ s10 σ8 H10 _ I10 q10) fun z2 s11 ⟨yv, H11, I11, r11, H12, hD11, nx⟩ => ?_
        exact g_dictSet (X := X.blk s3 H3 scope ce fp) hu I11 hD11 r10 r11 fun s12 I12 => fin I12 nx
  exact codeAny_compStart_dict loop (T.self X.A 0 _ _ _ st4 loop)
/-- as a value -/
theorem pe_dx {kx vx tg iter : Expr} {ifs : List Expr} {scope : Scope} {own : List (Str × Nat)} {pos : Pos} {wi : TI} {g : TG} {tt : TT} {tk tv : TE} (hu : X.A.units + 1 < cLine) (hc : X.calm = true) (hN : X.N.Nodup) (hi : PI X tg iter wi) (ok : BlkOk X.N X.env.scope scope own)
    (hg : ∀ (s : Shared) (H : Hp) (C : Addr) (cl : List (Str × Addr)) (fp : List Addr), PG (X.blk s H scope (compEnvC scope cl C X.env) fp) tg g) (ht : ∀ (s : Shared) (H : Hp) (C : Addr) (cl : List (Str × Addr)) (fp : List Addr), PTs (X.blk s H scope (compEnvC scope cl C X.env) fp) ifs tt)
    (hk : ∀ (s : Shared) (H : Hp) (C : Addr) (cl : List (Str × Addr)) (fp : List Addr), PE (X.blk s H scope (compEnvC scope cl C X.env) fp) kx tk)
    (he : ∀ (s : Shared) (H : Hp) (C : Addr) (cl : List (Str × Addr)) (fp : List Addr), PE (X.blk s H scope (compEnvC scope cl C X.env) fp) vx tv) (hs : ∀ x, foldedSetIterable iter X.env x = pure x := by intro _; rfl) :
    PE X (.DictComp kx vx [⟨tg, iter, ifs, 0⟩] scope pos) (tDx wi g tt tk tv (own.map (·.2))) := by
  refine ⟨fun pins s σ H Q I h => ?_⟩
  rw [arm_eval_DictComp]
  refine dx_core hu hc hN I hi ok hg ht hk he hs h fun D C s' m H' I' q hn f => ⟨m, hn, fun h'' sb => ?_⟩
  obtain ⟨f0, f1, f2, f3, f4, f5⟩ := f
  exact ⟨.ref D, H', I'.turned (t' := s'.toks) (fun b o hb e => (sb.2 b hb).trans e) f0 f1 f3 f4 f5, rfl, q⟩
theorem dx_it {J : It} {n : Nat} {G : Hp → Prop} {Y : Nat → Hp → V → Hp → Prop} (w : Walk J n G Y) {g : TG} {tt : TT} {tk tv : TE} {vs : List Nat} {σ : L2.St} {H1 : Hp} {D : Addr} {Qd : Hp → Prop} (Pv : Nat → Hp → Prop) (h0 : Pv 0 (upd H1 D (.dK []))) (hG : ∀ i H, i ≤ n → Pv i H → G H)
    (hs : ∀ i x H H', i < n → Pv i H → Y i H x H' → g x (L2.wipe σ vs) H' fun σ2 H2 => L2.wipe σ2 vs = L2.wipe σ vs ∧ tt σ2 H2 fun b H3 =>
      if b = true then tk σ2 H3 fun y H4 => tv σ2 H4 fun z H5 => ∃ H6, DPE H5 D y z H6 ∧ Pv (i + 1) H6 else Pv (i + 1) H3) (hd : ∀ H, Pv n H → Qd H) :
    ∃ W : Nat → Nat → Hp → Prop, (∃ m, W 0 m (upd H1 D (.dK []))) ∧ ∀ i m H, W i m H →
      (J.stop i H ∧ Qd H) ∨ (J.go i H ∧ ∃ Nx : Hp → Prop, (∀ H', Nx H' → ∃ m', m' < m ∧ W (i + 1) m' H') ∧ ∀ x H', J.yld i H x H' → g x (L2.wipe σ vs) H' fun σ2 H2 => L2.wipe σ2 vs = L2.wipe σ vs ∧ tt σ2 H2 fun b H3 =>
        if b = true then tk σ2 H3 fun y H4 => tv σ2 H4 fun z H5 => ∃ H6, DPE H5 D y z H6 ∧ Nx H6 else Nx H3) := by
  refine ⟨fun i m H => m = n - i ∧ i ≤ n ∧ Pv i H, ⟨n, by simp, Nat.zero_le _, h0⟩, ?_⟩
  rintro i m H ⟨rfl, hi, p⟩
  have q := hG i H hi p
  by_cases hlt : i < n
  · exact .inr ⟨w.goes i H hlt q, Pv (i + 1), fun H' p' => ⟨n - (i + 1), by omega, rfl, hlt, p'⟩, fun x H' y => hs i x H H' hlt p (w.yields i H x H' hlt q y)⟩
  · have e : i = n := by omega
    subst e
    exact .inl ⟨w.stops H q, hd H p⟩
end
/-- what stands at the new dict -/
def OwO (K : Fg) (Hz : Hp) (ps : List (D × D)) : HO → Prop
  | .dK kvs => RepP K Hz (kvs.map fun p => (keyD p.1, p.2)) ps
  | .dT kvs => RepP K Hz (kvs.map fun p => (keyT p.1, p.2)) ps
  | _ => False
theorem OwO.mono {K : Fg} {Hz Hz' : Hp} {ps : List (D × D)} {ob : HO} (e : Same Hz Hz') (h : OwO K Hz ps ob) : OwO K Hz' ps ob := by
  cases ob with
  | dK kvs => exact RepP.mono e h
  | dT kvs => exact RepP.mono e h
  | _ => exact h
theorem OwO.ow {K : Fg} {Hz H : Hp} {ps : List (D × D)} {ob : HO} {a : Addr} (e : H a = some ob) (h : OwO K Hz ps ob) : OwRep K Hz H a (.dict ps) := by
  cases ob with
  | dK kvs => exact .inl ⟨kvs, e, h⟩
  | dT kvs => exact .inr ⟨kvs, e, h⟩
  | _ => exact h.elim
theorem OwO.of {K : Fg} {Hz H : Hp} {ps : List (D × D)} {a : Addr} (h : OwRep K Hz H a (.dict ps)) : ∃ ob, H a = some ob ∧ OwO K Hz ps ob := by
  rcases h with ⟨kvs, e, r⟩ | ⟨kvs, e, r⟩
  · exact ⟨_, e, r⟩
  · exact ⟨_, e, r⟩
/-- the turns of a dict comprehension -/
def dcR (vs : List Nat) (g : SG) (ct : STs) (fk fv : SE) : List D → List (D × D) → Env → RE
  | [], acc, ρ => .ok (.ow (.dict acc)) ρ
  | d :: ds, acc, ρ => match g d (wipeB vs ρ) with
    | none => .bad
    | some ρ2 => match ct ρ2 with
      | .ok false ρ3 => dcR vs g ct fk fv ds acc (keepE vs ρ ρ3)
      | .ok true ρ3 => (match fk ρ3 with
        | .ok b ρ4 => (match frz b with
          | some x => (match fv ρ4 with
            | .ok b2 ρ5 => (match frz b2 with
              | some y => (match putC acc x y with
                | some acc' => dcR vs g ct fk fv ds acc' (keepE vs ρ ρ5)
                | none => .bad)
              | none => .bad)
            | _ => .bad)
          | none => .bad)
        | _ => .bad)
      | _ => .bad
def sDc (vs : List Nat) (it : SI) (g : SG) (ct : STs) (fk fv : SE) : SE := fun ρ => (it ρ).bnd fun ds ρ1 => dcR vs g ct fk fv ds [] ρ1
theorem putC_some {ps ps' : List (D × D)} {x y : D} (h : putC ps x y = some ps') : ∃ c, kOf x = some c ∧ sameK c ps = true ∧ ps.length < sizeLine ∧ ps' = dput ps x c y := by
  unfold putC at h
  cases hc : kOf x with
  | none => rw [hc] at h; cases h
  | some c =>
    rw [hc] at h
    have h : (if sameK c ps = true ∧ ps.length < sizeLine then some (dput ps x c y) else none) = some ps' := h
    split at h
    · rename_i w; cases h; exact ⟨c, rfl, w.1, w.2, rfl⟩
    · cases h
theorem e_dx {X : Cx} {T : Tx} {W : WX} {kx vx tg iter : Expr} {ifs : List Expr} {scope : Scope} {own : List (Str × Nat)} {pos : Pos} {it : SI} {g : SG} {ct : STs} {fk fv : SE} {L : List Nat} (hu : X.A.units + 1 < cLine) (hc : X.calm = true) (hN : X.N.Nodup) (hi : PI X tg iter (tI T W it)) (ok : BlkOk X.N X.env.scope scope own)
    (hL : ∀ i ∈ L, i ∈ own.map (·.2))
    (hg : ∀ (s : Shared) (H : Hp) (C : Addr) (cl : List (Str × Addr)) (fp : List Addr), PG (X.blk s H scope (compEnvC scope cl C X.env) fp) tg (tG T L g))
    (ht : ∀ (s : Shared) (H : Hp) (C : Addr) (cl : List (Str × Addr)) (fp : List Addr), PTs (X.blk s H scope (compEnvC scope cl C X.env) fp) ifs (tT T W0 ct))
    (hk : ∀ (s : Shared) (H : Hp) (C : Addr) (cl : List (Str × Addr)) (fp : List Addr), PE (X.blk s H scope (compEnvC scope cl C X.env) fp) kx (tE T W0 fk))
    (he : ∀ (s : Shared) (H : Hp) (C : Addr) (cl : List (Str × Addr)) (fp : List Addr), PE (X.blk s H scope (compEnvC scope cl C X.env) fp) vx (tE T W0 fv)) (hs : ∀ x, foldedSetIterable iter X.env x = pure x) :
    PE X (.DictComp kx vx [⟨tg, iter, ifs, 0⟩] scope pos) (tE T W (sDc (own.map (·.2)) it g ct fk fv)) := by
  refine PE.mono (pe_dx hu hc hN hi ok hg ht hk he hs) fun σ H Q h => ?_
  generalize own.map (·.2) = vs at *
  obtain ⟨Hz, ρ, F, z, h⟩ := h
  refine ⟨Hz, ρ, F, z, Aft.imp (Aft.bnd (P := PIt T.K) h) fun J H1 ⟨Hz1, F1, ds, ρ1, z1, s1, r1, q1⟩ => fun D hD => ?_⟩
  obtain ⟨G, Y, wk, hG, hY⟩ := r1
  have q2 := q1.fromB s1
  refine dx_it wk (fun i H' => ∃ Hz' ρ' F' ob accD, Zone T.K Hz' H' σ ρ' F' ∧ Step Hz1 H1 F1 Hz' H' F' ∧ H' D = some ob ∧ OwO T.K Hz' accD ob ∧ Hz' D = none ∧ ¬ Own F' D ∧ Aft T W Hz1 H1 F1 σ (PB T.K F1) (dcR vs g ct fk fv (ds.drop i) accD ρ') Q)
    ⟨Hz1, ρ1, F1, .dK [], [], z1.push0 hD, .push0 hD, upd_same, .nil, z1.sub.free hD, fun w => z1.there w hD, q2⟩ (fun i H' _ ⟨Hz', ρ', F', ob, accD, z', sm, _⟩ => hG H' (sm.z.trans z'.sub)) (fun i x H' H'' hi ⟨Hz', ρ', F', ob, accD, z', sm, k1, k2, k3, k4, q⟩ y => ?_) fun H' ⟨Hz', ρ', F', ob, accD, z', sm, k1, k2, k3, k4, q⟩ => ?_
  · obtain ⟨d, hd, n⟩ := hY i H' x H'' Hz' hi y sm.z z'.sub
    obtain ⟨Hz2, z2, s2, pb⟩ := new_zone z' n
    obtain ⟨fp, m, _⟩ := pb
    have hdr : ds.drop i = d :: ds.drop (i + 1) := by
      rw [List.drop_eq_getElem_cons hi]
      rw [List.getElem?_eq_getElem hi] at hd
      cases hd; rfl
    rw [hdr] at q
    unfold dcR at q
    refine ⟨Hz2, _, _, d, z2.wipe (vs := vs), m.2, ?_⟩
    cases eg : g d (wipeB vs ρ') with
    | none => rw [eg] at q; cases q
    | some ρ2 =>
      rw [eg] at q
      intro σ3 Hz3 H3 F3 z3 s3 c3
      refine ⟨wipe_chg hL c3, Hz3, ρ2, F3, z3, ?_⟩
      -- the new dict stands through the turn
      have stay : ∀ {Hz4 H4 : Hp} {F4 : Nat → List Addr}, Step Hz2 H'' (wipeF vs F') Hz4 H4 F4 → H4 D = some ob ∧ Hz4 D = none ∧ ¬ Own F4 D := fun {Hz4 H4 F4} s4 => by
        have a1 : H'' D = some ob := s2.fr D _ k1 k4
        have a2 : ¬ Own (wipeF vs F') D := fun w => by
          obtain ⟨j, _, w⟩ := own_wipe w
          exact k4 ⟨j, w⟩
        have a3 : Hz2 D = none := by
          cases e : Hz2 D with
          | none => rfl
          | some o =>
            rcases s2.nz D (by rw [e]; exact fun w => nomatch w) with w | w | w
            · exact absurd k3 w
            · rw [k1] at w; cases w
            · exact absurd w k4
        refine ⟨s4.fr D _ a1 a2, ?_, fun w => ?_⟩
        · cases e : Hz4 D with
          | none => rfl
          | some o =>
            rcases s4.nz D (by rw [e]; exact fun w => nomatch w) with w | w | w
            · exact absurd a3 w
            · rw [a1] at w; cases w
            · exact absurd w a2
        · rcases s4.no D w with w | w
          · rw [a1] at w; cases w
          · exact a2 w
      -- the end of a turn
      have back : ∀ {Hz4 H4 : Hp} {F4 : Nat → List Addr} {ρ4 : Env}, Zone T.K Hz4 H4 σ3 ρ4 F4 → Step Hz2 H'' (wipeF vs F') Hz4 H4 F4 → Zone T.K Hz4 H4 σ (keepE vs ρ' ρ4) (keepF vs F' F4) ∧ Step Hz1 H1 F1 Hz4 H4 (keepF vs F' F4) ∧ ¬ Own (keepF vs F' F4) D := fun {Hz4 H4 F4 ρ4} z4 s4 => by
        obtain ⟨a1, a2⟩ := z2.unwipe z4 s4 (c3.mono hL)
        refine ⟨a1, sm.trans (s2.trans a2), fun w => ?_⟩
        obtain ⟨j, hj⟩ := w
        unfold keepF at hj
        split at hj
        · exact k4 ⟨j, hj⟩
        · exact (stay s4).2.2 ⟨j, hj⟩
      cases ec : ct ρ2 with
      | bad => simp only [ec] at q; cases q
      | exc x ρ3 => simp only [ec] at q; cases q
      | ok b ρ3 =>
        intro bb Hz4 H4 F4 z4 s4 eb
        cases eb
        have s34 := s3.trans s4
        cases b with
        | false =>
          simp only [ec] at q
          refine iteF ?_
          obtain ⟨a1, a2, a3⟩ := back z4 s34
          obtain ⟨b1, b2, b3⟩ := stay s34
          exact ⟨Hz4, _, _, ob, accD, a1, a2, b1, k2.mono (s2.z.trans s34.z), b2, a3, q⟩
        | true =>
          simp only [ec] at q
          refine iteT ⟨Hz4, ρ3, F4, z4, ?_⟩
          cases ee : fk ρ3 with
          | bad => simp only [ee] at q; cases q
          | exc x ρ4 => simp only [ee] at q; cases q
          | ok b ρ4 =>
            simp only [ee] at q
            intro yv Hz5 H5 F5 z5 s5 pb
            cases ef : frz b with
            | none => simp only [ef] at q; cases q
            | some kd =>
              simp only [ef] at q
              obtain ⟨Hz6, z6, s6, r6⟩ := freeze ef z5 s5 pb
              have s36 := s34.trans s6
              refine ⟨Hz6, ρ4, F5, z6, ?_⟩
              cases e2 : fv ρ4 with
              | bad => simp only [e2] at q; cases q
              | exc x ρ5 => simp only [e2] at q; cases q
              | ok b2 ρ5 =>
                simp only [e2] at q
                intro zv Hz7 H7 F7 z7 s7 pb2
                cases ef2 : frz b2 with
                | none => simp only [ef2] at q; cases q
                | some vd =>
                  simp only [ef2] at q
                  obtain ⟨Hz8, z8, s8, r8⟩ := freeze ef2 z7 s7 pb2
                  have s38 := s36.trans s8
                  cases hp : putC accD kd vd with
                  | none => simp only [hp] at q; cases q
                  | some acc' =>
                    simp only [hp] at q
                    obtain ⟨a1, a2, a3⟩ := back z8 s38
                    obtain ⟨b1, b2, b3⟩ := stay s38
                    obtain ⟨c, hc, hk, hl, rfl⟩ := putC_some hp
                    have kr := k2.mono (s2.z.trans s38.z)
                    obtain ⟨ob', g2, o2⟩ := put_ow z8.sub (kr.ow b1) (r6.mono s8.z) r8 hc hk hl
                    obtain ⟨ob2, e3, o3⟩ := OwO.of o2
                    refine ⟨_, g2, Hz8, _, _, ob2, dput accD kd c vd, a1.keep (.refl _) (fun c o e => ?_) (fun c hc => upd_ne fun w => by subst w; exact a3 hc) (fun c hc => a1.notIn hc), ⟨a2.z, fun c o e nn => ?_, a2.nz, a2.no, fun c e => ?_⟩, e3, o3, b2, a3, q⟩
                    · rw [upd_ne (ne_of_none e b2)]; exact a1.sub c o e
                    · rw [upd_ne (ne_of_none e hD)]; exact a2.fr c o e nn
                    · by_cases hcd : c = D
                      · subst hcd; rw [upd_same]; exact fun w => nomatch w
                      · rw [upd_ne hcd]; exact a2.dom c e
  · rw [List.drop_length] at q
    exact q (.ref D) Hz' H' F' z' sm ⟨[D], ⟨D, rfl, rfl, k2.ow k1⟩, fun c hc => by
      have : c = D := by simpa using hc
      subst this
      exact ⟨k3, k4, .inl hD⟩⟩
end FK

set_option Elab.async false
set_option linter.all false
set_option maxRecDepth 100000
set_option maxHeartbeats 2000000
/-! FK 43: dicts as the printer tells them; keyword-only parameters. -/
namespace FK
open PySem PySem.Spec PyProof.Rows L2
section
variable {X : Cx} {T : Tx} {W : WX} {k : Nat} {l m : List Nat} {o a b c e : Expr} {es : List Expr} {f fi fa fb fo fk fd : SE} {fs : SA} {fv : SAv} {ct et : STs} {P : List Nat} {pos p p1 p2 apos cpos : Pos}
theorem Cxb.units1 {cb : Bool} (C : Cxb cb X T W k l m) : X.A.units + 1 < cLine := by have := C.un; omega
theorem put_ {cb : Bool} (C : Cxb cb X T W k l m) {i : Nat} {x : Str} {ix : Expr} {fi : SE} (hN : X.N[i]? = some x) (hl : l.contains i = true) (he : PE X e (tE T W f)) (hi : PE X ix (tE T W fi))
    (hs : swapsWithSole [.Subscript (.Name x p1) ix p2] e pos.line X.env = pure false) (hw : swappedStores [.Subscript (.Name x p1) ix p2] e X.env = pure none)
    (ha : ∀ v, assign (.Subscript (.Name x p1) ix p2) X.env v = (do
      let ov ← holding [v] (eval (.Name x p1) X.env)
      let iv ← holding [v, ov] (eval ix X.env)
      standAt p2
      holding [v, ov, iv] (setItem ov iv v)
      release [v, ov, iv] [])) (h1 : (assignEach [.Subscript (.Name x p1) ix p2] X.env).map (·.2) = [assign (.Subscript (.Name x p1) ix p2) X.env]) :
    PS X (.Assign [.Subscript (.Name x p1) ix p2] e pos) (tS T W P (sPut i fi f)) :=
  s_put C.units1 hN (C.vis i x hl hN).1 (C.vis i x hl hN).2.1 (C.vis i x hl hN).2.2 he hi hs hw ha h1
theorem get2_ {cb : Bool} (C : Cxb cb X T W k l m) (ho : PE X o (tE T W fo)) (he : PE X e (tE T W fk)) (hf : PE X a (tE T W fd)) (hm : M2 X o "get" apos e a cpos) : PE X (.Call (.Attribute o "get" apos) [e, a] [] cpos) (tE T W (sGet2 fo fk fd)) := e_get2 C.units1 ho he hf hm
theorem upd_ {cb : Bool} (C : Cxb cb X T W k l m) {i : Nat} {x : Str} {cpos : Pos} (hN : X.N[i]? = some x) (hl : l.contains i = true) (he : PE X e (tE T W f))
    (hfew : ((backTo cpos (starEach [e] X.env)).all (fun x => !x.1) && (backToKw cpos (keywordEach [] X.env)).all (fun x => x.1.isSome) && decide ([e].length + ([] : List Keyword).length + (if ([] : List Keyword).isEmpty then 0 else 1) < 30)) = true)
    (hline : (apos.endLine == cpos.line) = true) (hs : starEach [e] X.env = (false, eval e X.env) :: starEach [] X.env) (hbase : attributeBase (.Name x p1) "update" X.env (eval (.Name x p1) X.env) = eval (.Name x p1) X.env)
    (hsw : swapsWith (.Call (.Attribute (.Name x p1) "update" apos) [e] [] cpos) none pos.line X.env = pure false) :
    PS X (.Expr (.Call (.Attribute (.Name x p1) "update" apos) [e] [] cpos) pos) (tS T W P (sUpd i f)) :=
  s_upd hN (C.vis i x hl hN).1 (C.vis i x hl hN).2.1 (C.vis i x hl hN).2.2 he hfew hline hs hbase hsw
theorem dc_ (C : Cxt X T W k l m) (l' m' : List Nat) (own : List (Str × Nat)) {kx vx tg iter : Expr} {ifs : List Expr} {scope : Scope} {it : SI} {g : SG} {fk fv : SE} {L : List Nat} (hb : blkC X.N X.env.scope scope own = true) (h1 : seesB X.N (relS scope X.env.scope) l' = true) (h2 : ownsB X.N (relS scope X.env.scope) m' = true)
    (hL : (L.all fun i => (own.map (·.2)).contains i) = true) (hi : PI X tg iter (tI T W it))
    (hg : ∀ (s : Shared) (H : Hp) (Ca : Addr) (cl : List (Str × Addr)) (fp : List Addr), Cxt (X.blk s H scope (compEnvC scope cl Ca X.env) fp) T W0 k l' m' → PG (X.blk s H scope (compEnvC scope cl Ca X.env) fp) tg (tG T L g))
    (ht : ∀ (s : Shared) (H : Hp) (Ca : Addr) (cl : List (Str × Addr)) (fp : List Addr), Cxt (X.blk s H scope (compEnvC scope cl Ca X.env) fp) T W0 k l' m' → PTs (X.blk s H scope (compEnvC scope cl Ca X.env) fp) ifs (tT T W0 ct))
    (hk : ∀ (s : Shared) (H : Hp) (Ca : Addr) (cl : List (Str × Addr)) (fp : List Addr), Cxt (X.blk s H scope (compEnvC scope cl Ca X.env) fp) T W0 k l' m' → PE (X.blk s H scope (compEnvC scope cl Ca X.env) fp) kx (tE T W0 fk))
    (he : ∀ (s : Shared) (H : Hp) (Ca : Addr) (cl : List (Str × Addr)) (fp : List Addr), Cxt (X.blk s H scope (compEnvC scope cl Ca X.env) fp) T W0 k l' m' → PE (X.blk s H scope (compEnvC scope cl Ca X.env) fp) vx (tE T W0 fv)) (hs : ∀ x, foldedSetIterable iter X.env x = pure x) :
    PE X (.DictComp kx vx [⟨tg, iter, ifs, 0⟩] scope pos) (tE T W (sDc (own.map (·.2)) it g ct fk fv)) :=
  e_dx C.units1 C.calm C.nd hi (blkOk_by hb) (fun i hi => List.contains_iff_mem.mp (List.all_eq_true.mp hL i hi)) (fun s H Ca cl fp => hg s H Ca cl fp (C.blk h1 h2 s H Ca cl fp)) (fun s H Ca cl fp => ht s H Ca cl fp (C.blk h1 h2 s H Ca cl fp)) (fun s H Ca cl fp => hk s H Ca cl fp (C.blk h1 h2 s H Ca cl fp)) (fun s H Ca cl fp => he s H Ca cl fp (C.blk h1 h2 s H Ca cl fp)) hs
end
/-! ### keyword-only parameters -/
section
variable {X : Cx} {T : Tx} {W : WX} {e : Expr} {f : SE} {fv fw : SAv} {kws : List Keyword} {nm : Option Str} {kpos pos : Pos}
theorem kv_nil : PK X [] (tAv T W vNil) := ⟨fun pos pins s σ H Q I ⟨Hz, ρ, F, z, h⟩ => pk_nil.run pos pins s σ H Q I (h [] Hz H F z .refl .nil)⟩
theorem kv_val (ha : PE X e (tE T W f)) (hr : PK X kws (tAv T W fv)) : PK X (⟨nm, e, kpos⟩ :: kws) (tAv T W (vVal f fv)) := by
  refine ⟨fun pos pins s σ H Q I ⟨Hz, ρ, F, z, h⟩ => (pk_cons ha hr).run pos pins s σ H Q I ?_⟩
  refine ⟨Hz, ρ, F, z, Aft.imp (Aft.frd h) fun v H1 ⟨Hz1, F1, d, ρ1, z1, s1, r1, q1⟩ => ?_⟩
  have q1' : Aft T W Hz1 H1 F1 σ (PAv T.K σ) _ Q := q1.from s1 fun _ _ _ _ _ p => p
  refine ⟨Hz1, ρ1, F1, z1, Aft.imp (Aft.bnd (P := PAv T.K σ) q1') fun vs H2 ⟨Hz2, F2, l, ρ2, z2, s2, r2, q2⟩ => ?_⟩
  have q2' : Aft T W Hz2 H2 F2 σ (PAv T.K σ) _ Q := q2.from s2 fun _ _ _ _ _ p => p
  exact q2' (v :: vs) Hz2 H2 F2 z2 .refl (.val (r1.mono s2.z) r2)
end
theorem RepA.append {K : Fg} {Hz : Hp} {σ : L2.St} : ∀ {vs ws : List V} {l m : List AV}, RepA K Hz σ vs l → RepA K Hz σ ws m → RepA K Hz σ (vs ++ ws) (l ++ m)
  | _, _, _, _, .nil, h => h
  | _, _, _, _, .val r t, h => .val r (t.append h)
  | _, _, _, _, .io r t, h => .io r (t.append h)
/-- keywords' values behind the written ones -/
def vApp (a b : SAv) : SAv := fun ρ => (a ρ).bnd fun l ρ1 => (b ρ1).bnd fun m ρ2 => .ok (l ++ m) ρ2
/-- a default of nothing -/
def vT0 : SAv := fun ρ => .ok [.val (.tuple [])] ρ
theorem EmpT.rep {K : Fg} {Hz : Hp} {a : Addr} (h : EmpT K a) : Rep K Hz (.ref a) (.tuple []) := by
  obtain ⟨o, its, n, h1, h2, h3, h4⟩ := h
  refine .tup (xs := []) (.inr ⟨o, its, n, h1, h2, h3, ?_, by rw [h4]; exact .nil⟩) .nil fun w => absurd rfl w
  have : its.size = 0 := by rw [← Array.length_toList, h4]; rfl
  rw [this]; decide
section
variable {T : Tx} {W : WX} {n : Nat} {ft : SE} {Hz1 H1 : Hp} {F1 : Nat → List Addr} {σ : L2.St} {ρ1 : Env} {vs : List V} {l : List AV} {Q : VK}
theorem sp_of (hft : ∀ bs, ft bs ≠ .bad → bs.length = n) (z1 : Zone T.K Hz1 H1 σ ρ1 F1) (r1 : RepA T.K Hz1 σ vs l) (q2 : Aft T W Hz1 H1 F1 σ (PB T.K F1) (if nodupB (ios l) = true then (match mkArgs ρ1 l with
    | some bs => (match ft bs with
      | .ok b os => .ok b (backs l os ρ1)
      | .exc x os => .exc x (backs l os ρ1)
      | .bad => .bad)
    | none => .bad) else .bad) Q) : spF T n ft vs H1 Q (WE W σ) := by
  by_cases hnd : nodupB (ios l) = true
  · rw [if_pos hnd] at q2
    cases hb2 : mkArgs ρ1 l with
    | none => rw [hb2] at q2; cases q2
    | some bs =>
      rw [hb2] at q2
      have zc := z1.call r1 hnd hb2
      have hlen : vs.length = n := by
        have e1 := zc.len
        rw [List.length_map] at e1
        have e2 := (mkArgs_get hb2).1
        have e3 := r1.length
        have e4 := hft bs fun w => by simp only [w] at q2; cases q2
        omega
      refine ⟨hlen, Hz1, bs, _, zc, ?_⟩
      cases hf : ft bs with
      | bad => simp only [hf] at q2; cases q2
      | ok b os =>
        simp only [hf] at q2
        exact fun v Hz' H' F' z' st pb => q2 v Hz' H' _ (z1.back r1 hnd hb2 z' st) (st.back z1) (PB.back z1 pb)
      | exc x os =>
        simp only [hf] at q2
        exact fun cls d Hz' H' F' z' st xr => q2 cls d Hz' H' _ (z1.back r1 hnd hb2 z' st) (st.back z1) xr
  · rw [if_neg hnd] at q2; cases q2
end
section
variable {X : Cx} {CX : CXT} {k n : Nat} {f : Addr} {fd : FuncData} {ps ks : List Str} {sp : Sp} {E : L2.St → XK} {x : Str} {p pos : Pos} {e : Expr} {es : List Expr} {kws : List Keyword} {t tk : TA} {g : List Value → List Value → List Value} {gV : List V → List V → List V}
def tCallNS (n m : Nat) (sp : Sp) (gV : List V → List V → List V) (E : L2.St → XK) (t tk : TA) : TE := fun σ H Q => t σ H fun vs H1 => tk σ H1 fun zs H2 => vs.length = n ∧ zs.length = m ∧ sp (gV vs zs) H2 Q (E σ)
theorem run_fnNS {pins : List (Addr × Obj)} {σ : L2.St} {H : Hp} {s : Shared} {Q : VK} {us ws : List Value} {vs zs : List V} (F : FnOk X.prog X.w X.K X.mg X.base CX k f fd ps sp) (hr : Room k X.A) (hb : KBn X.K fd ps n ks g gV) (hx : PassesAt CX X σ (E σ))
    (I : Inv X pins σ H s) (r : Vals vs us) (rz : Vals zs ws) (l1 : vs.length = n) (l2 : zs.length = ks.length) (h : sp (gV vs zs) H Q (E σ)) : wpAny (model X.prog X.w) X.A (call (.ref f) us (ks.zip ws)) (EP X pins σ Q) X.xe s := by
  refine wpAny_call (codeAny_mono (F.run X.A X.stack s H ⟨us, ks.zip ws⟩ (g us ws) (gV vs zs) Q (E σ) hr I.env0 (hb.to s us ws I.kIn (r.length.symm.trans l1) (rz.length.symm.trans l2)) (hb.rel r rz) h) fun r s' hq => ?_)
  cases r with
  | error e => exact hx pins H s e s' I hq
  | ok fl =>
    cases fl with
    | ret u => exact I.after hq
    | next => exact False.elim hq
    | brk => exact False.elim hq
    | cont => exact False.elim hq
theorem pe_callNS (F : FnOk X.prog X.w X.K X.mg X.base CX k f fd ps sp) (hr : Room k X.A) (hg : Gl X x) (hm : X.mg x = some (.ref f)) (hk : PySem.W.keepIn X.K (.ref f) = true) (hb : KBn X.K fd ps n ks g gV) (hx : ∀ σ, PassesAt CX X σ (E σ))
    (ha : PA X (e :: es) t) (hkw : PK X kws tk) (hall : (backToKw pos (keywordEach kws X.env)).all (·.1.isSome) = true) (hks : (backToKw pos (keywordEach kws X.env)).filterMap (·.1) = ks)
    (hdb : (x == ("__debug__" : Str)) = false) (he : starEach (e :: es) X.env = (false, eval e X.env) :: starEach es X.env)
    (hpl : ((backTo pos (starEach (e :: es) X.env)).any (·.1) || (backToKw pos (keywordEach kws X.env)).any (·.1.isNone)) = false) :
    PE X (.Call (.Name x p) (e :: es) kws pos) (tCallNS n ks.length sp gV E t tk) := by
  refine ⟨fun pins s σ H Q I h => ?_⟩
  refine wpAny_Call_Name_kw (ld_glob I hg hm ?_ hdb)
  refine PySem.W.callWith_KW (h₀ := X.base) I.ok.mod.kin hk hall (thn (ha.run pos pins s σ H _ I h) fun us s1 ⟨vs, H1, I1, r, q⟩ => ?_) hpl he
  refine thn (hkw.run pos pins s1 σ H1 _ I1 q) fun ws s2 ⟨zs, H2, I2, rz, l1, l2, q2⟩ => ⟨I2.kIn, ?_⟩
  rw [hks]
  exact run_fnNS F hr hb (hx σ) I2 r rz l1 l2 q2
end
/-- a def with keyword-only parameters, each with () as its default -/
structure FnAtK (K : Fg) (mg : Str → Option Value) (x : Str) (f : Addr) (fd : FuncData) (ps ks : List Str) (n : Nat) (dv : List V) : Prop where
  gl : mg x = some (.ref f)
  kp : PySem.W.keepIn K (.ref f) = true
  bd : ∃ ds, Vals dv ds ∧ Binds K fd ps ds
  kb : KBn K fd ps n ks (fun us ws => us ++ ws) (fun vs zs => vs ++ zs)
section
variable {X : Cx} {T : Tx} {W : WX} {k : Nat} {l m : List Nat} {e : Expr} {es : List Expr} {fv fw : SAv} {pos p : Pos} {kws : List Keyword}
/-- .. called without them: one such -/
theorem callD_ (C : Cxt X T W k l m) {n : Nat} {f : Addr} {fd : FuncData} {ps ks : List Str} {x : Str} {ft : SE} {n' : Nat} {da : Addr} (F : FnOk X.prog X.w T.K X.mg X.base (L2.CX X.prog X.w) k f fd ps (spF T n ft)) (A : FnAtK T.K X.mg x f fd ps ks n' [.ref da]) (em : EmpT T.K da) (hft : ∀ bs, ft bs ≠ .bad → bs.length = n)
    (ha : PA X (e :: es) (tAv T W fv)) (hg : Gl X x) (hdb : (x == ("__debug__" : Str)) = false) (he : starEach (e :: es) X.env = (false, eval e X.env) :: starEach es X.env) (hpl : (backTo pos (starEach es X.env)).any (·.1) = false) :
    PE X (.Call (.Name x p) (e :: es) [] pos) (tE T W (sCall ft (vApp fv vT0))) := by
  obtain ⟨ds, hd, hb⟩ := A.bd
  refine PE.mono (pe_callSD (E := WE W) (by rw [C.hK]; exact F) C.room hg A.gl (by rw [C.hK]; exact A.kp) (by rw [C.hK]; exact hb) hd (fun σ => passAt C.tk σ) ha hdb he hpl) fun σ H Q ⟨Hz, ρ, F0, z, h⟩ => ?_
  unfold sCall vApp at h
  have h : Aft T W Hz H F0 σ (PB T.K F0) (((fv ρ).bnd fun l ρ1 => (vT0 ρ1).bnd fun m ρ2 => .ok (l ++ m) ρ2).bnd fun l ρ1 => if nodupB (ios l) = true then (match mkArgs ρ1 l with
    | some bs => (match ft bs with
      | .ok b os => .ok b (backs l os ρ1)
      | .exc x os => .exc x (backs l os ρ1)
      | .bad => .bad)
    | none => .bad) else .bad) Q := h
  refine ⟨Hz, ρ, F0, z, ?_⟩
  cases ef : fv ρ with
  | bad => rw [ef] at h; exact h
  | exc y ρ1 => rw [ef] at h; exact h
  | ok l ρ1 =>
    rw [ef] at h
    intro vs Hz1 H1 F1 z1 s1 r1
    exact sp_of hft z1 (r1.append (.val em.rep .nil)) (h.fromB s1)
/-- .. called with keywords -/
theorem callN_ (C : Cxt X T W k l m) {n : Nat} {f : Addr} {fd : FuncData} {ps ks : List Str} {x : Str} {ft : SE} {n' : Nat} {dv : List V} (F : FnOk X.prog X.w T.K X.mg X.base (L2.CX X.prog X.w) k f fd ps (spF T n ft)) (A : FnAtK T.K X.mg x f fd ps ks n' dv) (hft : ∀ bs, ft bs ≠ .bad → bs.length = n)
    (ha : PA X (e :: es) (tAv T W fv)) (hkw : PK X kws (tAv T W fw)) (hl : ∀ ρ l ρ', fv ρ = .ok l ρ' → l.length = n') (hl2 : ∀ ρ l ρ', fw ρ = .ok l ρ' → l.length = ks.length) (hg : Gl X x) (hdb : (x == ("__debug__" : Str)) = false)
    (hall : (backToKw pos (keywordEach kws X.env)).all (·.1.isSome) = true) (hks : (backToKw pos (keywordEach kws X.env)).filterMap (·.1) = ks)
    (he : starEach (e :: es) X.env = (false, eval e X.env) :: starEach es X.env) (hpl : ((backTo pos (starEach (e :: es) X.env)).any (·.1) || (backToKw pos (keywordEach kws X.env)).any (·.1.isNone)) = false) :
    PE X (.Call (.Name x p) (e :: es) kws pos) (tE T W (sCall ft (vApp fv fw))) := by
  refine PE.mono (pe_callNS (E := WE W) (by rw [C.hK]; exact F) C.room hg A.gl (by rw [C.hK]; exact A.kp) (by rw [C.hK]; exact A.kb) (fun σ => passAt C.tk σ) ha hkw hall hks hdb he hpl) fun σ H Q ⟨Hz, ρ, F0, z, h⟩ => ?_
  have h : Aft T W Hz H F0 σ (PB T.K F0) (((fv ρ).bnd fun l ρ1 => (fw ρ1).bnd fun m ρ2 => .ok (l ++ m) ρ2).bnd fun l ρ1 => if nodupB (ios l) = true then (match mkArgs ρ1 l with
    | some bs => (match ft bs with
      | .ok b os => .ok b (backs l os ρ1)
      | .exc x os => .exc x (backs l os ρ1)
      | .bad => .bad)
    | none => .bad) else .bad) Q := h
  refine ⟨Hz, ρ, F0, z, ?_⟩
  cases ef : fv ρ with
  | bad => rw [ef] at h; exact h
  | exc y ρ1 => rw [ef] at h; exact h
  | ok l ρ1 =>
    rw [ef] at h
    intro vs Hz1 H1 F1 z1 s1 r1
    have h1 := h.fromB s1
    refine ⟨Hz1, ρ1, F1, z1, ?_⟩
    have h1 : Aft T W Hz1 H1 F1 σ (PB T.K F1) ((((fw ρ1).bnd fun m ρ2 => .ok (l ++ m) ρ2) : Rs (List AV)).bnd fun l ρ1 => if nodupB (ios l) = true then (match mkArgs ρ1 l with
      | some bs => (match ft bs with
        | .ok b os => .ok b (backs l os ρ1)
        | .exc x os => .exc x (backs l os ρ1)
        | .bad => .bad)
      | none => .bad) else .bad) Q := h1
    cases eg : fw ρ1 with
    | bad => rw [eg] at h1; exact h1
    | exc y ρ2 => rw [eg] at h1; exact h1
    | ok m ρ2 =>
      rw [eg] at h1
      intro zs Hz2 H2 F2 z2 s2 r2
      have r1' : RepA T.K Hz1 σ vs l := r1
      have r2' : RepA T.K Hz2 σ zs m := r2
      exact ⟨r1'.length.trans (hl _ _ _ ef), r2'.length.trans (hl2 _ _ _ eg), sp_of hft z2 ((r1'.mono s2.z).append r2') (h1.fromB s2)⟩
theorem len_nil {ρ : Env} {l : List AV} {ρ' : Env} (h : vNil ρ = .ok l ρ') : l.length = 0 := by cases h; rfl
theorem len_val {f : SE} {fv : SAv} {n : Nat} (hr : ∀ ρ l ρ', fv ρ = .ok l ρ' → l.length = n) (ρ : Env) (l : List AV) (ρ' : Env) (h : vVal f fv ρ = .ok l ρ') : l.length = n + 1 := by
  unfold vVal at h
  cases e : f ρ with
  | bad => rw [e] at h; cases h
  | exc y ρ1 => rw [e] at h; cases h
  | ok b ρ1 =>
    rw [e] at h
    unfold Rs.frd at h
    simp only [Rs.bnd] at h
    cases eb : frz b with
    | none => rw [eb] at h; cases h
    | some d =>
      rw [eb] at h
      simp only at h
      cases e2 : fv ρ1 with
      | bad => rw [e2] at h; cases h
      | exc y ρ2 => rw [e2] at h; cases h
      | ok l2 ρ2 =>
        rw [e2] at h
        simp only at h
        cases h
        rw [List.length_cons, hr _ _ _ e2]
theorem len_nil' (ρ : Env) (l : List AV) (ρ' : Env) (h : vNil ρ = .ok l ρ') : l.length = 0 := len_nil h
end
/-- the binding of keywords, no others lacking -/
theorem kbinds0 {K : PySem.W.Frag} {x qual : Str} {params : Arguments} {body : List Stmt} {scope : Scope} {kws : List (Str × V)} {f : Addr} {fd : FuncData} {ps : List Str} (F : FunD K x qual params body scope [] kws f fd) (n : Nat) (ks : List Str)
    (h : ∀ (kV doc pm : Value) (an : Option Addr) (cdv ct : Value) (us ws : List Value), us.length = n → ws.length = ks.length → bindArgs (PySem.W.fnOf x qual params body scope .none kV doc pm an cdv ct) ⟨us, ks.zip ws⟩ = pure (ps.zip (us ++ ws))) : KBn K fd ps n ks (fun us ws => us ++ ws) (fun vs zs => vs ++ zs) := by
  obtain ⟨oc, od, dV, kV, doc, pm, an, cdv, ct, osl, rfl, lk, hcd, hD, hK⟩ := F.ex
  rcases hD with ⟨_, rfl⟩ | ⟨e, _⟩
  · exact ⟨fun s us ws X l1 l2 => .of_eq (h kV doc pm an cdv ct us ws l1 l2), fun r1 r2 => r1.append r2⟩
  · exact absurd rfl e
end FK

set_option Elab.async false
set_option linter.all false
set_option maxRecDepth 100000
set_option maxHeartbeats 1000000
/-! M 1: places joined by links, groups, nets, in plain Lean. -/
namespace FK
open PySem
/-- reached from a by links of S -/
inductive Rch (S : Lnk → Prop) (a : Str) : Str → Prop
  | refl : Rch S a a
  | step {b c : Str} {l : Lnk} : Rch S a b → S l → (l.x = b ∧ l.y = c) ∨ (l.y = b ∧ l.x = c) → Rch S a c
namespace Rch
variable {S S' : Lnk → Prop} {a b c : Str} {l : Lnk}
theorem one (h : S l) (e : (l.x = b ∧ l.y = c) ∨ (l.y = b ∧ l.x = c)) : Rch S b c := .step .refl h e
theorem trans (h : Rch S a b) (k : Rch S b c) : Rch S a c := by
  induction k with
  | refl => exact h
  | step _ s e ih => exact .step ih s e
theorem symm (h : Rch S a b) : Rch S b a := by
  induction h with
  | refl => exact .refl
  | @step b c l _ s e ih =>
    have e2 : (l.x = c ∧ l.y = b) ∨ (l.y = c ∧ l.x = b) := by
      rcases e with ⟨h1, h2⟩ | ⟨h1, h2⟩
      · exact .inr ⟨h2, h1⟩
      · exact .inl ⟨h2, h1⟩
    exact (one s e2).trans ih
theorem mono (h : ∀ l, S l → S' l) (k : Rch S a b) : Rch S' a b := by
  induction k with
  | refl => exact .refl
  | step _ s e ih => exact .step ih (h _ s) e
/-- one link more -/
theorem add : Rch (fun m => S m ∨ m = l) a b ↔ Rch S a b ∨ (Rch S a l.x ∧ Rch S l.y b) ∨ (Rch S a l.y ∧ Rch S l.x b) := by
  constructor
  · intro h
    induction h with
    | refl => exact .inl .refl
    | @step b c m _ s e ih =>
      rcases s with s | rfl
      · rcases ih with h | ⟨h, k⟩ | ⟨h, k⟩
        · exact .inl (.step h s e)
        · exact .inr (.inl ⟨h, .step k s e⟩)
        · exact .inr (.inr ⟨h, .step k s e⟩)
      · rcases e with ⟨rfl, rfl⟩ | ⟨rfl, rfl⟩
        · rcases ih with h | ⟨h, k⟩ | ⟨h, k⟩
          · exact .inr (.inl ⟨h, .refl⟩)
          · exact .inr (.inl ⟨h, .refl⟩)
          · exact .inl h
        · rcases ih with h | ⟨h, k⟩ | ⟨h, k⟩
          · exact .inr (.inr ⟨h, .refl⟩)
          · exact .inl h
          · exact .inr (.inr ⟨h, .refl⟩)
  · have m1 : ∀ {a b}, Rch S a b → Rch (fun m => S m ∨ m = l) a b := fun h => h.mono fun _ => .inl
    rintro (h | ⟨h, k⟩ | ⟨h, k⟩)
    · exact m1 h
    · exact (Rch.step (m1 h) (.inr rfl) (.inl ⟨rfl, rfl⟩)).trans (m1 k)
    · exact (Rch.step (m1 h) (.inr rfl) (.inr ⟨rfl, rfl⟩)).trans (m1 k)
/-- a link between joined places joins no others -/
theorem add_in (h : Rch S l.x l.y) : Rch (fun m => S m ∨ m = l) a b ↔ Rch S a b := by
  rw [add]
  constructor
  · rintro (k | ⟨k, m⟩ | ⟨k, m⟩)
    · exact k
    · exact (k.trans h).trans m
    · exact (k.trans h.symm).trans m
  · exact .inl
theorem congr (h : ∀ l, S l ↔ S' l) : Rch S a b ↔ Rch S' a b := ⟨mono fun l => (h l).1, mono fun l => (h l).2⟩
end Rch
/-- the links of a row -/
abbrev Of (ls : List Lnk) : Lnk → Prop := fun l => l ∈ ls
theorem of_snoc {ls : List Lnk} {l : Lnk} {a b : Str} : Rch (Of (ls ++ [l])) a b ↔ Rch (fun m => Of ls m ∨ m = l) a b := Rch.congr fun m => by simp
open Classical in
/-- the net of a row, behind what is ahead -/
noncomputable def netR : List Lnk → List Lnk → List Lnk
  | _, [] => []
  | pre, l :: r => if Rch (Of pre) l.x l.y then netR (pre ++ [l]) r else l :: netR (pre ++ [l]) r
noncomputable def netL (row : List Lnk) : List Lnk := netR [] row
/-- groups of places -/
structure Grp (S : Lnk → Prop) (G : Str → List Str) : Prop where
  mem : ∀ a b, b ∈ G a ↔ Rch S a b
  nd : ∀ a, (G a).Nodup
def gIni : Str → List Str := fun z => [z]
def gPut (G : Str → List Str) (a b : Str) : Str → List Str := fun z => if z ∈ G a ++ G b then G a ++ G b else G z
theorem grp_ini : Grp (Of []) gIni := by
  refine ⟨fun a b => ?_, fun a => by simp [gIni]⟩
  unfold gIni
  rw [List.mem_singleton]
  constructor
  · rintro rfl; exact .refl
  · intro h
    cases h with
    | refl => rfl
    | step _ s _ => exact nomatch s
theorem Grp.keep {pre : List Lnk} {l : Lnk} {G : Str → List Str} (g : Grp (Of pre) G) (h : l.y ∈ G l.x) : Grp (Of (pre ++ [l])) G :=
  ⟨fun a b => by rw [g.mem, of_snoc, Rch.add_in ((g.mem _ _).1 h)], g.nd⟩
theorem Grp.put {pre : List Lnk} {l : Lnk} {G : Str → List Str} (g : Grp (Of pre) G) (h : l.y ∉ G l.x) : Grp (Of (pre ++ [l])) (gPut G l.x l.y) := by
  have apart : ∀ z, z ∈ G l.x → z ∈ G l.y → False := fun z h1 h2 => h ((g.mem _ _).2 (((g.mem _ _).1 h1).trans ((g.mem _ _).1 h2).symm))
  refine ⟨fun a b => ?_, fun a => ?_⟩
  · rw [of_snoc, Rch.add]
    unfold gPut
    by_cases ha : a ∈ G l.x ++ G l.y
    · rw [if_pos ha, List.mem_append, g.mem, g.mem]
      rw [List.mem_append, g.mem, g.mem] at ha
      constructor
      · rintro (k | k)
        · rcases ha with e | e
          · exact .inl (e.symm.trans k)
          · exact .inr (.inr ⟨e.symm, k⟩)
        · rcases ha with e | e
          · exact .inr (.inl ⟨e.symm, k⟩)
          · exact .inl (e.symm.trans k)
      · rintro (k | ⟨_, k⟩ | ⟨_, k⟩)
        · rcases ha with e | e
          · exact .inl (e.trans k)
          · exact .inr (e.trans k)
        · exact .inr k
        · exact .inl k
    · rw [if_neg ha, g.mem]
      rw [List.mem_append, g.mem, g.mem] at ha
      constructor
      · exact .inl
      · rintro (k | ⟨k, _⟩ | ⟨k, _⟩)
        · exact k
        · exact absurd (.inl k.symm) ha
        · exact absurd (.inr k.symm) ha
  · unfold gPut
    split
    · exact List.nodup_append.mpr ⟨g.nd _, g.nd _, fun x h1 y h2 e => by subst e; exact apart _ h1 h2⟩
    · exact g.nd a
/-- the groups and the net, as they are walked -/
def netG : (Str → List Str) → List Lnk → List Lnk
  | _, [] => []
  | G, l :: r => if l.y ∈ G l.x then netG G r else l :: netG (gPut G l.x l.y) r
theorem netG_eq : ∀ {r pre : List Lnk} {G : Str → List Str}, Grp (Of pre) G → netG G r = netR pre r
  | [], _, _, _ => rfl
  | l :: r, pre, G, g => by
    unfold netG netR
    by_cases h : l.y ∈ G l.x
    · rw [if_pos h, if_pos ((g.mem _ _).1 h), netG_eq (g.keep h)]
    · rw [if_neg h, if_neg (fun w => h ((g.mem _ _).2 w)), netG_eq (g.put h)]
theorem netR_sub : ∀ {r pre : List Lnk}, (netR pre r).Sublist r
  | [], _ => .slnil
  | l :: r, pre => by
    unfold netR
    split
    · exact .cons _ netR_sub
    · exact .cons₂ _ netR_sub
theorem netL_sub {r : List Lnk} : (netL r).Sublist r := netR_sub
/-- which links are in the net -/
theorem mem_netR : ∀ {r pre : List Lnk} {l : Lnk}, (pre ++ r).Nodup → (l ∈ netR pre r ↔ ∃ a b, r = a ++ l :: b ∧ ¬ Rch (Of (pre ++ a)) l.x l.y)
  | [], pre, l, _ => by simp [netR]
  | m :: r, pre, l, nd => by
    have nd2 : ((pre ++ [m]) ++ r).Nodup := by simpa using nd
    have ih := mem_netR (r := r) (pre := pre ++ [m]) (l := l) nd2
    have hm : m ∉ r := by
      have := (List.nodup_append.mp nd).2.1
      exact (List.nodup_cons.mp this).1
    unfold netR
    have key : (∃ a b, m :: r = a ++ l :: b ∧ ¬ Rch (Of (pre ++ a)) l.x l.y) ↔ (m = l ∧ ¬ Rch (Of pre) l.x l.y) ∨ ∃ a b, r = a ++ l :: b ∧ ¬ Rch (Of (pre ++ [m] ++ a)) l.x l.y := by
      constructor
      · rintro ⟨a, b, e, h⟩
        cases a with
        | nil => left; rw [List.nil_append] at e; cases e; exact ⟨rfl, by simpa using h⟩
        | cons a0 a =>
          right
          rw [List.cons_append] at e
          cases e
          exact ⟨a, b, rfl, by simpa using h⟩
      · rintro (⟨rfl, h⟩ | ⟨a, b, rfl, h⟩)
        · exact ⟨[], r, rfl, by simpa using h⟩
        · exact ⟨m :: a, b, rfl, by simpa using h⟩
    rw [key, ← ih]
    by_cases h : Rch (Of pre) m.x m.y
    · rw [if_pos h]
      constructor
      · exact .inr
      · rintro (⟨rfl, k⟩ | k)
        · exact absurd h k
        · exact k
    · rw [if_neg h, List.mem_cons]
      constructor
      · rintro (rfl | k)
        · exact .inl ⟨rfl, h⟩
        · exact .inr k
      · rintro (⟨rfl, _⟩ | k)
        · exact .inl rfl
        · exact .inr k
/-! ### growing sets -/
def grow (f : List Str) (l : Lnk) : List Str := if decide (l.x ∈ f) = decide (l.y ∈ f) then f else f ++ [if l.x ∈ f then l.y else l.x]
def round (lot : List Lnk) (f : List Str) : List Str := lot.foldl grow f
def rounds (lot : List Lnk) : Nat → List Str → List Str
  | 0, f => f
  | n + 1, f => rounds lot n (round lot f)
def near (lot : List Lnk) (z : Str) : List Str := rounds lot lot.length [z]
theorem grow_sub {f : List Str} {l : Lnk} {z : Str} (h : z ∈ f) : z ∈ grow f l := by
  unfold grow
  split
  · exact h
  · exact List.mem_append_left _ h
theorem fold_sub {z : Str} : ∀ {lot : List Lnk} {f : List Str}, z ∈ f → z ∈ lot.foldl grow f
  | [], _, h => h
  | l :: lot, f, h => fold_sub (lot := lot) (grow_sub h)
theorem grow_len {f : List Str} {l : Lnk} : f.length ≤ (grow f l).length := by
  unfold grow
  split
  · exact Nat.le_refl _
  · simp
theorem fold_len : ∀ {lot : List Lnk} {f : List Str}, f.length ≤ (lot.foldl grow f).length
  | [], _ => Nat.le_refl _
  | l :: lot, f => Nat.le_trans grow_len (fold_len (lot := lot))
theorem grow_same {f : List Str} {l : Lnk} (h : (grow f l).length ≤ f.length) : grow f l = f ∧ (l.x ∈ f ↔ l.y ∈ f) := by
  unfold grow at h ⊢
  by_cases e : decide (l.x ∈ f) = decide (l.y ∈ f)
  · rw [if_pos e]; exact ⟨rfl, by simpa using e⟩
  · rw [if_neg e] at h; simp at h; omega
/-- both places in, of each link -/
def Shut (lot : List Lnk) (f : List Str) : Prop := ∀ l ∈ lot, (l.x ∈ f ↔ l.y ∈ f)
theorem fold_same : ∀ {lot : List Lnk} {f : List Str}, (lot.foldl grow f).length ≤ f.length → lot.foldl grow f = f ∧ Shut lot f
  | [], f, _ => ⟨rfl, fun l h => nomatch h⟩
  | l :: lot, f, h => by
    have h1 : (lot.foldl grow (grow f l)).length ≤ f.length := h
    have h2 := fold_len (lot := lot) (f := grow f l)
    obtain ⟨e, s⟩ := grow_same (f := f) (l := l) (by omega)
    rw [e] at h1
    obtain ⟨e2, s2⟩ := fold_same h1
    refine ⟨by show lot.foldl grow (grow f l) = f; rw [e, e2], fun m hm => ?_⟩
    rcases List.mem_cons.mp hm with rfl | hm
    · exact s
    · exact s2 m hm
theorem fold_shut : ∀ {lot : List Lnk} {f : List Str}, Shut lot f → lot.foldl grow f = f
  | [], f, _ => rfl
  | l :: lot, f, h => by
    have s := h l List.mem_cons_self
    have e : grow f l = f := by unfold grow; rw [if_pos (by simpa using s)]
    show lot.foldl grow (grow f l) = f
    rw [e]
    exact fold_shut fun m hm => h m (List.mem_cons_of_mem _ hm)
/-- the links with both places in -/
def inn (lot : List Lnk) (f : List Str) : Nat := lot.countP fun l => decide (l.x ∈ f) && decide (l.y ∈ f)
theorem count_le {α : Type} {p q : α → Bool} : ∀ {l : List α}, (∀ x ∈ l, p x = true → q x = true) → l.countP p ≤ l.countP q
  | [], _ => Nat.le_refl _
  | x :: l, h => by
    have ih := count_le (l := l) fun y hy => h y (List.mem_cons_of_mem _ hy)
    rw [List.countP_cons, List.countP_cons]
    by_cases hp : p x = true
    · rw [if_pos hp, if_pos (h x List.mem_cons_self hp)]; omega
    · rw [if_neg hp]; omega
theorem count_lt {α : Type} {p q : α → Bool} : ∀ {l : List α} {x : α}, (∀ x ∈ l, p x = true → q x = true) → x ∈ l → p x = false → q x = true → l.countP p < l.countP q
  | y :: l, x, h, hx, h1, h2 => by
    rw [List.countP_cons, List.countP_cons]
    rcases List.mem_cons.mp hx with rfl | hx
    · have ih := count_le (l := l) fun y hy => h y (List.mem_cons_of_mem _ hy)
      rw [if_neg (by simp [h1]), if_pos h2]; omega
    · have ih := count_lt (l := l) (fun y hy => h y (List.mem_cons_of_mem _ hy)) hx h1 h2
      by_cases hp : p y = true
      · rw [if_pos hp, if_pos (h y List.mem_cons_self hp)]; omega
      · rw [if_neg hp]; omega
theorem inn_round {lot : List Lnk} {f : List Str} (h : ¬ Shut lot f) : inn lot f < inn lot (round lot f) := by
  have ⟨l, hl, hc⟩ : ∃ l ∈ lot, ¬ (l.x ∈ f ↔ l.y ∈ f) := by
    apply Classical.byContradiction
    intro w
    exact h fun l hl => Classical.byContradiction fun c => w ⟨l, hl, c⟩
  -- behind the round both places of l are in
  have key : ∀ {lot : List Lnk} {f : List Str}, l ∈ lot → (l.x ∈ f ∨ l.y ∈ f) → l.x ∈ lot.foldl grow f ∧ l.y ∈ lot.foldl grow f := by
    intro lot
    induction lot with
    | nil => intro f hl; exact nomatch hl
    | cons m lot ih =>
      intro f hl ho
      have ho2 : l.x ∈ grow f m ∨ l.y ∈ grow f m := ho.imp grow_sub grow_sub
      rcases List.mem_cons.mp hl with rfl | hl
      · have both : l.x ∈ grow f l ∧ l.y ∈ grow f l := by
          unfold grow
          by_cases e : decide (l.x ∈ f) = decide (l.y ∈ f)
          · rw [if_pos e]
            have e2 : l.x ∈ f ↔ l.y ∈ f := by simpa using e
            exact ho.elim (fun a => ⟨a, e2.1 a⟩) fun a => ⟨e2.2 a, a⟩
          · rw [if_neg e]
            by_cases hx : l.x ∈ f
            · rw [if_pos hx]; exact ⟨List.mem_append_left _ hx, List.mem_append_right _ (by simp)⟩
            · rw [if_neg hx]
              exact ⟨List.mem_append_right _ (by simp), List.mem_append_left _ (ho.resolve_left hx)⟩
        exact ⟨fold_sub (lot := lot) both.1, fold_sub (lot := lot) both.2⟩
      · exact ih hl ho2
  have ho : l.x ∈ f ∨ l.y ∈ f := by
    apply Classical.byContradiction
    intro w
    have w1 : l.x ∉ f := fun a => w (.inl a)
    have w2 : l.y ∉ f := fun a => w (.inr a)
    exact hc ⟨fun a => absurd a w1, fun a => absurd a w2⟩
  obtain ⟨k1, k2⟩ := key hl ho
  refine count_lt (x := l) (fun m _ hm => ?_) hl ?_ ?_
  · simp only [Bool.and_eq_true, decide_eq_true_eq] at hm ⊢
    exact ⟨fold_sub hm.1, fold_sub hm.2⟩
  · by_cases hx : l.x ∈ f
    · have : l.y ∉ f := fun w => hc ⟨fun _ => w, fun _ => hx⟩
      simp [this]
    · simp [hx]
  · show (decide (l.x ∈ lot.foldl grow f) && decide (l.y ∈ lot.foldl grow f)) = true
    simp [k1, k2]
theorem rounds_shut {lot : List Lnk} : ∀ {n : Nat} {f : List Str}, lot.length ≤ inn lot f + n → Shut lot (rounds lot n f)
  | 0, f, h => by
    have e : inn lot f = lot.length := by
      have : inn lot f ≤ lot.length := List.countP_le_length
      omega
    have all := (List.countP_eq_length).mp e
    intro l hl
    have := all l hl
    simp only [Bool.and_eq_true, decide_eq_true_eq] at this
    exact ⟨fun _ => this.2, fun _ => this.1⟩
  | n + 1, f, h => by
    show Shut lot (rounds lot n (round lot f))
    by_cases hs : Shut lot f
    · have e : round lot f = f := fold_shut hs
      rw [e]
      have : ∀ n, rounds lot n f = f := fun n => by
        induction n with
        | zero => rfl
        | succ n ih => show rounds lot n (round lot f) = f; rw [e, ih]
      rw [this]; exact hs
    · have := inn_round hs
      exact rounds_shut (by omega)
theorem grow_rch {S : Lnk → Prop} {a : Str} {f : List Str} {l : Lnk} (hl : S l) (h : ∀ z ∈ f, Rch S a z) : ∀ z ∈ grow f l, Rch S a z := by
  unfold grow
  intro z hz
  by_cases e : decide (l.x ∈ f) = decide (l.y ∈ f)
  · rw [if_pos e] at hz; exact h z hz
  · rw [if_neg e] at hz
    rcases List.mem_append.mp hz with w | w
    · exact h z w
    · have w := List.mem_singleton.mp w
      by_cases hx : l.x ∈ f
      · rw [if_pos hx] at w; subst w; exact .step (h _ hx) hl (.inl ⟨rfl, rfl⟩)
      · rw [if_neg hx] at w; subst w
        have hy : l.y ∈ f := Classical.byContradiction fun w => e (by simp [hx, w])
        exact .step (h _ hy) hl (.inr ⟨rfl, rfl⟩)
theorem fold_rch {S : Lnk → Prop} {a : Str} : ∀ {lot : List Lnk} {f : List Str}, (∀ l ∈ lot, S l) → (∀ z ∈ f, Rch S a z) → ∀ z ∈ lot.foldl grow f, Rch S a z
  | [], _, _, h => h
  | l :: lot, f, hs, h => fold_rch (lot := lot) (fun m hm => hs m (List.mem_cons_of_mem _ hm)) (grow_rch (hs l List.mem_cons_self) h)
theorem rounds_rch {lot : List Lnk} {a : Str} : ∀ {n : Nat} {f : List Str}, (∀ z ∈ f, Rch (Of lot) a z) → ∀ z ∈ rounds lot n f, Rch (Of lot) a z
  | 0, _, h => h
  | n + 1, f, h => rounds_rch (n := n) (fold_rch (fun _ h => h) h)
theorem rounds_sub {lot : List Lnk} {z : Str} : ∀ {n : Nat} {f : List Str}, z ∈ f → z ∈ rounds lot n f
  | 0, _, h => h
  | n + 1, f, h => rounds_sub (n := n) (fold_sub h)
/-- what the growing set tells -/
theorem mem_near {lot : List Lnk} {a b : Str} : b ∈ near lot a ↔ Rch (Of lot) a b := by
  constructor
  · exact fun h => rounds_rch (fun z hz => by rw [List.mem_singleton.mp hz]; exact .refl) b h
  · intro h
    have hs : Shut lot (near lot a) := rounds_shut (by omega)
    have h0 : a ∈ near lot a := rounds_sub (List.mem_singleton.mpr rfl)
    induction h with
    | refl => exact h0
    | step _ s e ih =>
      rcases e with ⟨rfl, rfl⟩ | ⟨rfl, rfl⟩
      · exact (hs _ s).1 ih
      · exact (hs _ s).2 ih
/-- a row's links that lesser ones don't join -/
def dueR : List Lnk → List Lnk → List Lnk
  | _, [] => []
  | pre, l :: r => if l.y ∈ near pre l.x then dueR (pre ++ [l]) r else l :: dueR (pre ++ [l]) r
theorem dueR_eq : ∀ {r pre : List Lnk}, dueR pre r = netR pre r
  | [], _ => rfl
  | l :: r, pre => by
    unfold dueR netR
    by_cases h : l.y ∈ near pre l.x
    · rw [if_pos h, if_pos (mem_near.1 h), dueR_eq]
    · rw [if_neg h, if_neg (fun w => h (mem_near.2 w)), dueR_eq]
end FK

set_option Elab.async false
set_option linter.all false
set_option maxRecDepth 100000
set_option maxHeartbeats 1000000
/-! FK 44: the plain side of dicts. -/
namespace FK
open PySem PySem.Spec PyProof.Rows L2
section
variable {a0 : B} {ρ : Env} {f fi fo fk fd fv : SE} {i : Nat} {av aw : SAv} {ct : STs} {d : D}
@[simp] theorem sGet2_eq : sGet2 fo fk fd (a0 :: ρ) = (fo (a0 :: ρ)).frd fun x ρ1 => if isDc x = true then (fk ρ1).frd fun k ρ2 => (fd ρ2).frd fun d ρ3 => lft (gGet2 x k d) ρ3 else .bad := rfl
@[simp] theorem sPut_eq : sPut i fi f (a0 :: ρ) = (f (a0 :: ρ)).frS fun d ρ1 => if (owD ρ1 i).isSome = true then (fi ρ1).frS fun k ρ2 => match (owD ρ2 i).bind fun ps => putC ps k d with
  | some ps' => .nx (ρ2.set i (.ow (.dict ps')))
  | none => .bad else .bad := rfl
@[simp] theorem sUpd_eq : sUpd i f (a0 :: ρ) = if (owD (a0 :: ρ) i).isSome = true then (f (a0 :: ρ)).frS fun x ρ1 => match x, owD ρ1 i with
  | .dict qs, some ps => if allE ps = true ∧ allE qs = true ∧ ps.length + qs.length ≤ sizeLine then .nx (ρ1.set i (.ow (.dict (dmerge ps qs)))) else .bad
  | _, _ => .bad else .bad := rfl
@[simp] theorem sDc_eq {vs : List Nat} {it : SI} {g : SG} : sDc vs it g ct fk fv (a0 :: ρ) = (it (a0 :: ρ)).bnd fun ds ρ1 => dcR vs g ct fk fv ds [] ρ1 := rfl
@[simp] theorem vApp_eq : vApp av aw (a0 :: ρ) = (av (a0 :: ρ)).bnd fun l ρ1 => (aw ρ1).bnd fun m ρ2 => .ok (l ++ m) ρ2 := rfl
@[simp] theorem vT0_eq : vT0 (a0 :: ρ) = .ok [.val (.tuple [])] (a0 :: ρ) := rfl
@[simp] theorem owD_zero {ps : List (D × D)} {ρ : Env} : owD (.ow (.dict ps) :: ρ) 0 = some ps := rfl
@[simp] theorem owD_succ {a0 : B} {ρ : Env} {i : Nat} : owD (a0 :: ρ) (i + 1) = owD ρ i := rfl
/-- a thing on which no lent name leans -/
def Fz (b : B) : Prop := pureB b = true ∨ isFr b = true
theorem Fz.fr {d : D} : Fz (.fr d) := .inr rfl
theorem Fz.no : Fz .no := .inl rfl
@[simp] theorem isDc_dict {ps : List (D × D)} : isDc (.dict ps) = true := rfl
end
section
variable {x v : D} {c c' : KS} {ps : List (D × D)}
theorem dget_nil : dget [] c = none := rfl
theorem dget_cons {p : D × D} : dget (p :: ps) c = if kOf p.1 = some c then some p.2 else dget ps c := by
  unfold dget
  rw [List.find?_cons]
  by_cases h : kOf p.1 = some c
  · simp [h]
  · simp [h]
theorem dget_map (hx : kOf x = some c) : ∀ {ps : List (D × D)}, dget (ps.map fun p => if kOf p.1 = some c then (p.1, v) else p) c' = if c' = c then (dget ps c).map fun _ => v else dget ps c'
  | [] => by
    show (none : Option D) = if c' = c then (none : Option D).map (fun _ => v) else none
    split <;> rfl
  | p :: ps => by
    rw [List.map_cons, dget_cons, dget_map hx (ps := ps), dget_cons, dget_cons]
    by_cases h : kOf p.1 = some c
    · rw [if_pos h]
      by_cases e : c' = c
      · subst e; simp [h]
      · have : ¬ kOf p.1 = some c' := fun w => e (by rw [h] at w; cases w; rfl)
        simp [this, e]
    · rw [if_neg h]
      by_cases e : c' = c
      · subst e; simp [h]
      · simp [e]
theorem dget_none : ∀ {ps : List (D × D)}, ps.any (fun p => decide (kOf p.1 = some c)) = false → dget ps c = none
  | [], _ => rfl
  | p :: ps, h => by
    rw [List.any_cons, Bool.or_eq_false_iff] at h
    rw [dget_cons, if_neg (by simpa using h.1), dget_none h.2]
theorem dget_some : ∀ {ps : List (D × D)}, ps.any (fun p => decide (kOf p.1 = some c)) = true → ∃ w, dget ps c = some w
  | [], h => by cases h
  | p :: ps, h => by
    rw [dget_cons]
    by_cases e : kOf p.1 = some c
    · exact ⟨_, if_pos e⟩
    · rw [if_neg e]
      rw [List.any_cons, decide_eq_false e, Bool.false_or] at h
      exact dget_some h
theorem dget_snoc : ∀ {ps : List (D × D)}, dget (ps ++ [(x, v)]) c' = (dget ps c').or (if kOf x = some c' then some v else none)
  | [] => by rw [List.nil_append, dget_cons, dget_nil]; rfl
  | p :: ps => by
    rw [List.cons_append, dget_cons, dget_cons, dget_snoc (ps := ps)]
    by_cases e : kOf p.1 = some c'
    · rw [if_pos e, if_pos e]; rfl
    · rw [if_neg e, if_neg e]
theorem dget_dput (hx : kOf x = some c) : dget (dput ps x c v) c' = if c' = c then some v else dget ps c' := by
  unfold dput
  by_cases h : ps.any (fun p => decide (kOf p.1 = some c)) = true
  · rw [if_pos h, dget_map hx]
    obtain ⟨w, hw⟩ := dget_some h
    rw [hw]; rfl
  · have h2 : dget ps c = none := dget_none (by simpa using h)
    rw [if_neg h, dget_snoc, hx]
    by_cases e : c' = c
    · subst e; rw [h2]; simp
    · rw [if_neg e]
      have : ¬ (some c = some c') := fun w => e (by cases w; rfl)
      rw [if_neg this]
      cases dget ps c' <;> rfl
theorem len_dput : (dput ps x c v).length ≤ ps.length + 1 := by
  unfold dput
  split
  · rw [List.length_map]; omega
  · rw [List.length_append]; exact Nat.le_refl _
theorem le_dput : ps.length ≤ (dput ps x c v).length := by
  unfold dput
  split
  · rw [List.length_map]; omega
  · rw [List.length_append]; omega
/-- the keys of a dict -/
theorem mem_dput {p : D × D} (h : p ∈ dput ps x c v) : (p.1 = x ∧ p.2 = v) ∨ (∃ q ∈ ps, q.1 = p.1 ∧ (p.2 = v ∨ p = q)) := by
  unfold dput at h
  split at h
  · obtain ⟨q, hq, e⟩ := List.mem_map.mp h
    by_cases c1 : kOf q.1 = some c
    · rw [if_pos c1] at e; subst e; exact .inr ⟨q, hq, rfl, .inl rfl⟩
    · rw [if_neg c1] at e; subst e; exact .inr ⟨q, hq, rfl, .inr rfl⟩
  · rcases List.mem_append.mp h with w | w
    · exact .inr ⟨p, w, rfl, .inr rfl⟩
    · rw [List.mem_singleton.mp w]; exact .inl ⟨rfl, rfl⟩
end
/-! ### texts as keys -/
@[simp] theorem kOf_str {z : Str} : kOf (.str z) = some (.inl (.inr z)) := rfl
@[simp] theorem keyE_str {z : Str} : keyE (.str z) = some (.inr z) := rfl
def TxtK (ps : List (D × D)) : Prop := ∀ p ∈ ps, ∃ z, p.1 = .str z
theorem TxtK.same {ps : List (D × D)} (h : TxtK ps) {k : Key} : sameK (.inl k) ps = true := by
  unfold sameK
  refine List.all_eq_true.mpr fun p hp => ?_
  obtain ⟨z, e⟩ := h p hp
  rw [e]; rfl
theorem TxtK.allE {ps : List (D × D)} (h : TxtK ps) : allE ps = true := by
  unfold FK.allE
  refine List.all_eq_true.mpr fun p hp => ?_
  obtain ⟨z, e⟩ := h p hp
  rw [e]; rfl
abbrev putT (ps : List (D × D)) (z : Str) (v : D) : List (D × D) := dput ps (.str z) (.inl (.inr z)) v
abbrev getT (ps : List (D × D)) (z : Str) : Option D := dget ps (.inl (.inr z))
theorem TxtK.put {ps : List (D × D)} (h : TxtK ps) {z : Str} {v : D} : TxtK (putT ps z v) := fun p hp => by
  rcases mem_dput hp with ⟨e, _⟩ | ⟨q, hq, e, _⟩
  · exact ⟨z, e⟩
  · rw [← e]; exact h q hq
theorem get_putT {ps : List (D × D)} {y z : Str} {v : D} : getT (putT ps y v) z = if z = y then some v else getT ps z := by
  show dget (dput ps (.str y) (.inl (.inr y)) v) (.inl (.inr z)) = _
  rw [dget_dput rfl]
  by_cases e : z = y
  · subst e; simp
  · rw [if_neg e, if_neg fun w => e (by injection w with w; injection w)]
theorem putC_str {ps : List (D × D)} {z : Str} {v : D} (h : TxtK ps) (hl : ps.length < 1000000) : putC ps (.str z) v = some (putT ps z v) := by
  show (if sameK (.inl (.inr z)) ps = true ∧ ps.length < sizeLine then some (dput ps (.str z) (.inl (.inr z)) v) else none) = _
  exact if_pos ⟨h.same, by show ps.length < 16777216; omega⟩
/-- one thing put in under many texts -/
def putAll (ps : List (D × D)) (v : D) (zs : List Str) : List (D × D) := zs.foldl (fun acc z => putT acc z v) ps
theorem putAll_txt {v : D} : ∀ {zs : List Str} {ps : List (D × D)}, TxtK ps → TxtK (putAll ps v zs)
  | [], _, h => h
  | z :: zs, ps, h => putAll_txt (zs := zs) h.put
theorem putAll_len {v : D} : ∀ {zs : List Str} {ps : List (D × D)}, (putAll ps v zs).length ≤ ps.length + zs.length
  | [], _ => Nat.le_refl _
  | z :: zs, ps => by
    have h1 := putAll_len (v := v) (zs := zs) (ps := putT ps z v)
    have h2 : (putT ps z v).length ≤ ps.length + 1 := len_dput
    show (putAll (putT ps z v) v zs).length ≤ _
    rw [List.length_cons]; omega
theorem putAll_get {v : D} {y : Str} : ∀ {zs : List Str} {ps : List (D × D)}, getT (putAll ps v zs) y = if y ∈ zs then some v else getT ps y
  | [], ps => by simp [putAll]
  | z :: zs, ps => by
    show getT (putAll (putT ps z v) v zs) y = _
    rw [putAll_get (zs := zs), get_putT]
    by_cases h : y ∈ zs
    · simp [h]
    · by_cases e : y = z <;> simp [h, e]
theorem putAll_mem {v : D} : ∀ {zs : List Str} {ps : List (D × D)} {p : D × D}, p ∈ putAll ps v zs → (∀ q ∈ ps, q.2 = v) → p.2 = v ∧ ((∃ z ∈ zs, p.1 = .str z) ∨ ∃ q ∈ ps, q.1 = p.1)
  | [], ps, p, h, hv => ⟨hv p h, .inr ⟨p, h, rfl⟩⟩
  | z :: zs, ps, p, h, hv => by
    have h' : p ∈ putAll (putT ps z v) v zs := h
    obtain ⟨h1, h2⟩ := putAll_mem (zs := zs) h' fun q hq => by
      rcases mem_dput hq with ⟨_, e⟩ | ⟨r, hr, _, e | e⟩
      · exact e
      · exact e
      · rw [e]; exact hv r hr
    refine ⟨h1, ?_⟩
    rcases h2 with ⟨y, hy, e⟩ | ⟨q, hq, e⟩
    · exact .inl ⟨y, List.mem_cons_of_mem _ hy, e⟩
    · rcases mem_dput hq with ⟨e2, _⟩ | ⟨r, hr, e2, _⟩
      · exact .inl ⟨z, List.mem_cons_self, by rw [← e, e2]⟩
      · exact .inr ⟨r, hr, e2.trans e⟩
theorem dmerge_txt : ∀ {qs ps : List (D × D)}, TxtK ps → TxtK qs → TxtK (dmerge ps qs)
  | [], ps, h, _ => h
  | q :: qs, ps, h, k => by
    obtain ⟨z, e⟩ := k q List.mem_cons_self
    obtain ⟨q1, q2⟩ := q
    cases e
    exact dmerge_txt (qs := qs) h.put fun p hp => k p (List.mem_cons_of_mem _ hp)
theorem dmerge_len : ∀ {qs ps : List (D × D)}, TxtK qs → (dmerge ps qs).length ≤ ps.length + qs.length
  | [], ps, _ => Nat.le_refl _
  | q :: qs, ps, k => by
    obtain ⟨z, e⟩ := k q List.mem_cons_self
    obtain ⟨q1, q2⟩ := q
    cases e
    have h1 := dmerge_len (qs := qs) (ps := putT ps z q2) fun p hp => k p (List.mem_cons_of_mem _ hp)
    have h2 : (putT ps z q2).length ≤ ps.length + 1 := len_dput
    show (dmerge (putT ps z q2) qs).length ≤ _
    rw [List.length_cons]; omega
open Classical in
theorem dmerge_get {v : D} {y : Str} : ∀ {qs ps : List (D × D)}, TxtK qs → (∀ q ∈ qs, q.2 = v) → getT (dmerge ps qs) y = if (∃ q ∈ qs, q.1 = .str y) then some v else getT ps y
  | [], ps, _, _ => by
    rw [if_neg (by rintro ⟨q, hq, _⟩; exact nomatch hq)]; rfl
  | q :: qs, ps, k, hv => by
    obtain ⟨z, e⟩ := k q List.mem_cons_self
    obtain ⟨q1, q2⟩ := q
    cases e
    have e2 : q2 = v := hv _ List.mem_cons_self
    subst e2
    show getT (dmerge (putT ps z q2) qs) y = _
    rw [dmerge_get (qs := qs) (fun p hp => k p (List.mem_cons_of_mem _ hp)) fun p hp => hv p (List.mem_cons_of_mem _ hp), get_putT]
    by_cases h : ∃ q ∈ qs, q.1 = .str y
    · rw [if_pos h, if_pos (by obtain ⟨q, hq, e⟩ := h; exact ⟨q, List.mem_cons_of_mem _ hq, e⟩)]
    · rw [if_neg h]
      by_cases e : y = z
      · subst e
        rw [if_pos rfl, if_pos ⟨_, List.mem_cons_self, rfl⟩]
      · rw [if_neg e, if_neg]
        rintro ⟨q, hq, e3⟩
        rcases List.mem_cons.mp hq with w | w
        · rw [w] at e3
          exact e (by injection e3 with e3; exact e3.symm)
        · exact h ⟨q, w, e3⟩
/-- a dict comprehension that changes nothing: texts as keys, one value -/
theorem dcR_txt {vs : List Nat} {g : SG} {ct : STs} {fk fv : SE} (q : D → Env) (v : D) : ∀ {zs : List Str} {acc : List (D × D)} {ρ : Env}, (∀ z ∈ zs, g (.str z) (wipeB vs ρ) = some (q (.str z)) ∧ ct (q (.str z)) = .ok true (q (.str z)) ∧ fk (q (.str z)) = .ok (.fr (.str z)) (q (.str z)) ∧ (∃ b, fv (q (.str z)) = .ok b (q (.str z)) ∧ frz b = some v) ∧ keepE vs ρ (q (.str z)) = ρ) →
    TxtK acc → acc.length + zs.length < 1000000 → dcR vs g ct fk fv (zs.map .str) acc ρ = .ok (.ow (.dict (putAll acc v zs))) ρ
  | [], acc, ρ, _, _, _ => by rw [List.map_nil, dcR]; rfl
  | z :: zs, acc, ρ, h, ht, hl => by
    obtain ⟨h1, h2, h3, ⟨b, h4, h5⟩, h6⟩ := h z (by simp)
    simp only [List.length_cons] at hl
    rw [List.map_cons, dcR, h1]
    simp only [h2, h3, h4, h5, frz_fr]
    rw [putC_str ht (by omega)]
    simp only [h6]
    have l2 : (putT acc z v).length ≤ acc.length + 1 := len_dput
    exact dcR_txt q v (fun e he => h e (by simp [he])) ht.put (by omega)
/-! ### links as keys -/
def keyL (l : Lnk) : KS := .inr [.inl l.c, .inl l.m, .inr l.x, .inr l.y]
@[simp] theorem kOf_ld {l : Lnk} : kOf (ld l) = some (keyL l) := rfl
theorem keyL_inj {a b : Lnk} (h : keyL a = keyL b) : a = b := by
  cases a; cases b
  simp only [keyL, Sum.inr.injEq, List.cons.injEq, Sum.inl.injEq, and_true] at h
  obtain ⟨rfl, rfl, rfl, rfl⟩ := h
  rfl
def LnkK (ps : List (D × D)) : Prop := ∀ p ∈ ps, ∃ l, p.1 = ld l
theorem LnkK.same {ps : List (D × D)} (h : LnkK ps) {l : Lnk} : sameK (keyL l) ps = true := by
  unfold sameK
  refine List.all_eq_true.mpr fun p hp => ?_
  obtain ⟨m, e⟩ := h p hp
  rw [e]; rfl
abbrev putL (ps : List (D × D)) (l : Lnk) (v : D) : List (D × D) := dput ps (ld l) (keyL l) v
abbrev getL (ps : List (D × D)) (l : Lnk) : Option D := dget ps (keyL l)
theorem LnkK.put {ps : List (D × D)} (h : LnkK ps) {l : Lnk} {v : D} : LnkK (putL ps l v) := fun p hp => by
  rcases mem_dput hp with ⟨e, _⟩ | ⟨q, hq, e, _⟩
  · exact ⟨l, e⟩
  · rw [← e]; exact h q hq
theorem get_putL {ps : List (D × D)} {a b : Lnk} {v : D} : getL (putL ps a v) b = if b = a then some v else getL ps b := by
  show dget (dput ps (ld a) (keyL a) v) (keyL b) = _
  rw [dget_dput rfl]
  by_cases e : b = a
  · subst e; simp
  · rw [if_neg e, if_neg fun w => e (keyL_inj w)]
theorem putC_ld {ps : List (D × D)} {l : Lnk} {v : D} (h : LnkK ps) (hl : ps.length < 1000000) : putC ps (ld l) v = some (putL ps l v) := by
  show (if sameK (keyL l) ps = true ∧ ps.length < sizeLine then some (dput ps (ld l) (keyL l) v) else none) = _
  exact if_pos ⟨h.same, by show ps.length < 16777216; omega⟩
/-- a dict comprehension over links that changes nothing -/
theorem dcR_lnk {vs : List Nat} {g : SG} {ct : STs} {fk fv : SE} (q : D → Env) (p : Lnk → Bool) (v : Lnk → D) : ∀ {ls : List Lnk} {acc : List (D × D)} {ρ : Env}, (∀ l ∈ ls, g (ld l) (wipeB vs ρ) = some (q (ld l)) ∧ ct (q (ld l)) = .ok (p l) (q (ld l)) ∧ (p l = true → fk (q (ld l)) = .ok (.fr (ld l)) (q (ld l)) ∧ (∃ b, fv (q (ld l)) = .ok b (q (ld l)) ∧ frz b = some (v l))) ∧ keepE vs ρ (q (ld l)) = ρ) →
    LnkK acc → acc.length + ls.length < 1000000 → dcR vs g ct fk fv (ls.map ld) acc ρ = .ok (.ow (.dict ((ls.filter p).foldl (fun acc l => putL acc l (v l)) acc))) ρ
  | [], acc, ρ, _, _, _ => by rw [List.map_nil, dcR]; rfl
  | l :: ls, acc, ρ, h, ht, hl => by
    obtain ⟨h1, h2, h3, h6⟩ := h l (by simp)
    simp only [List.length_cons] at hl
    rw [List.map_cons, dcR, h1]
    cases hp : p l with
    | false =>
      rw [hp] at h2
      simp only [h2, h6]
      rw [List.filter_cons, hp]
      exact dcR_lnk q p v (fun e he => h e (by simp [he])) ht (by omega)
    | true =>
      rw [hp] at h2
      obtain ⟨h3, b, h4, h5⟩ := h3 hp
      simp only [h2, h3, h4, h5, frz_fr]
      rw [putC_ld ht (by omega)]
      simp only [h6]
      have l2 : (putL acc l (v l)).length ≤ acc.length + 1 := len_dput
      rw [List.filter_cons, hp]
      exact dcR_lnk q p v (fun e he => h e (by simp [he])) ht.put (by omega)
theorem putsL_key {v : Lnk → D} : ∀ {ls : List Lnk} {ps : List (D × D)}, LnkK ps → LnkK (ls.foldl (fun acc l => putL acc l (v l)) ps)
  | [], _, h => h
  | l :: ls, ps, h => putsL_key (ls := ls) h.put
theorem putsL_len {v : Lnk → D} : ∀ {ls : List Lnk} {ps : List (D × D)}, (ls.foldl (fun acc l => putL acc l (v l)) ps).length ≤ ps.length + ls.length
  | [], _ => Nat.le_refl _
  | l :: ls, ps => by
    have h1 := putsL_len (v := v) (ls := ls) (ps := putL ps l (v l))
    have h2 : (putL ps l (v l)).length ≤ ps.length + 1 := len_dput
    rw [List.foldl_cons, List.length_cons]; omega
theorem putsL_get {v : Lnk → D} {b : Lnk} : ∀ {ls : List Lnk} {ps : List (D × D)}, getL (ls.foldl (fun acc l => putL acc l (v l)) ps) b = if b ∈ ls then some (v b) else getL ps b
  | [], ps => by simp
  | l :: ls, ps => by
    rw [List.foldl_cons, putsL_get (ls := ls), get_putL]
    by_cases h : b ∈ ls
    · simp [h]
    · by_cases e : b = l
      · subst e; simp
      · simp [h, e]
theorem gIn_lnk {ps : List (D × D)} {l : Lnk} (h : LnkK ps) : gIn (ld l) (.dict ps) = some (.fr (.bool (getL ps l).isSome)) := by
  show (if sameK (keyL l) ps = true then some (dget ps (keyL l)).isSome else none).map _ = _
  rw [if_pos h.same]; rfl
theorem gNotIn_lnk {ps : List (D × D)} {l : Lnk} (h : LnkK ps) : gNotIn (ld l) (.dict ps) = some (.fr (.bool (!(getL ps l).isSome))) := by
  show (if sameK (keyL l) ps = true then some (dget ps (keyL l)).isSome else none).map _ = _
  rw [if_pos h.same]; rfl
theorem gGet2_txt {ps : List (D × D)} {z : Str} {d : D} (h : TxtK ps) : gGet2 (.dict ps) (.str z) d = some (.fr ((getT ps z).getD d)) := by
  show (if sameK (.inl (.inr z)) ps = true then some (B.fr ((dget ps (.inl (.inr z))).getD d)) else none) = _
  exact if_pos h.same
theorem gGet2_lnk {ps : List (D × D)} {l : Lnk} {d : D} (h : LnkK ps) : gGet2 (.dict ps) (ld l) d = some (.fr ((getL ps l).getD d)) := by
  show (if sameK (keyL l) ps = true then some (B.fr ((dget ps (keyL l)).getD d)) else none) = _
  exact if_pos h.same
theorem sz_nodup {α : Type} [DecidableEq α] : ∀ {zs us : List α}, zs.Nodup → (∀ z ∈ zs, z ∈ us) → zs.length ≤ us.length
  | [], _, _, _ => Nat.zero_le _
  | z :: zs, us, nd, h => by
    obtain ⟨n1, n2⟩ := List.nodup_cons.mp nd
    have hz := h z List.mem_cons_self
    have := sz_nodup (us := us.erase z) n2 fun y hy => (List.mem_erase_of_ne (fun e => n1 (by subst e; exact hy))).mpr (h y (List.mem_cons_of_mem _ hy))
    rw [List.length_erase_of_mem hz] at this
    have : 0 < us.length := List.length_pos_of_mem hz
    rw [List.length_cons]; omega
/-! ### places and ends -/
theorem Rch.ends {ls : List Lnk} {a z : Str} (h : Rch (Of ls) a z) : z = a ∨ ∃ l ∈ ls, z = l.x ∨ z = l.y := by
  cases h with
  | refl => exact .inl rfl
  | @step b c l _ s e =>
    right
    rcases e with ⟨_, rfl⟩ | ⟨_, rfl⟩
    · exact ⟨l, s, .inr rfl⟩
    · exact ⟨l, s, .inl rfl⟩
theorem Grp.len {ls : List Lnk} {G : Str → List Str} (g : Grp (Of ls) G) (a : Str) : (G a).length ≤ 1 + 2 * ls.length := by
  have h := sz_nodup (us := a :: ls.flatMap fun l => [l.x, l.y]) (g.nd a) fun z hz => by
    rcases ((g.mem _ _).1 hz).ends with e | ⟨l, hl, e⟩
    · rw [e]; exact List.mem_cons_self
    · exact List.mem_cons_of_mem _ (List.mem_flatMap.mpr ⟨l, hl, by simp [e]⟩)
  have e : ∀ ls : List Lnk, (ls.flatMap fun l => [l.x, l.y]).length = 2 * ls.length := fun ls => by
    induction ls with
    | nil => rfl
    | cons l ls ih => rw [List.flatMap_cons, List.length_append, ih, List.length_cons]; simp; omega
  rw [List.length_cons, e] at h
  omega
theorem rose_is {rs ls : List Lnk} (h : rs.Pairwise llt) (m : ∀ a, a ∈ rs ↔ a ∈ ls) : rose (ls.map ld) = rs.map ld := by
  obtain ⟨us, e, p, q, _⟩ := rk_lnk.rose ls
  rw [e, rk_lnk.uniq p h fun a => by rw [q, m]]
/-! ### groups in a dict -/
def gT (G : Str → List Str) (z : Str) : D := .tuple ((G z).map .str)
/-- the dict tells the groups -/
def GD (ps : List (D × D)) (G : Str → List Str) : Prop := TxtK ps ∧ ∀ z, (getT ps z).getD (.tuple [.str z]) = gT G z
theorem GD.ini : GD [] gIni := ⟨fun p h => (nomatch h), fun z => rfl⟩
theorem GD.put {ps ps' : List (D × D)} {G : Str → List Str} {a b : Str} (h : GD ps G) (ht : TxtK ps') (hg : ∀ z, getT ps' z = if z ∈ G a ++ G b then some (.tuple ((G a ++ G b).map .str)) else getT ps z) : GD ps' (gPut G a b) := by
  refine ⟨ht, fun z => ?_⟩
  rw [hg]
  unfold gT gPut
  by_cases e : z ∈ G a ++ G b
  · rw [if_pos e, if_pos e]; rfl
  · rw [if_neg e, if_neg e]; exact h.2 z
theorem GD.get {ps : List (D × D)} {G : Str → List Str} (h : GD ps G) (z : Str) : gGet2 (.dict ps) (.str z) (.tuple [.str z]) = some (.fr (gT G z)) := by
  rw [gGet2_txt h.1, h.2]
end FK

set_option Elab.async false
set_option linter.all false
set_option maxRecDepth 100000
set_option maxHeartbeats 1000000
/-! FK 45: loops that carry a state. -/
namespace FK
open PySem PySem.Spec PyProof.Rows L2
/-- a loop whose turns change a state s; j: what else stands in the names -/
theorem forR_fold {α σ J : Type} {g : SG} {b : SS} (e : α → D) (st : σ → J → Env) (stp : σ → α → σ) (P : Nat → σ → J → Prop) : ∀ {as : List α} {s : σ} {j : J} (n : Nat), P n s j →
    (∀ i a s j, as[i]? = some a → P (n + i) s j → ∃ ρ1, g (e a) (st s j) = some ρ1 ∧ ∃ j', (b ρ1 = .nx (st (stp s a) j') ∨ b ρ1 = .ct (st (stp s a) j')) ∧ P (n + i + 1) (stp s a) j') →
    ∃ j', forR g b (as.map e) (st s j) = .nx (st (as.foldl stp s) j') ∧ P (n + as.length) (as.foldl stp s) j'
  | [], s, j, n, h0, _ => ⟨j, rfl, h0⟩
  | a :: as, s, j, n, h0, step => by
    obtain ⟨ρ1, h1, j1, h2, h3⟩ := step 0 a s j rfl h0
    obtain ⟨j', h4, h5⟩ := forR_fold (as := as) e st stp P (n + 1) h3 fun i a s j he hp => by
      have := step (i + 1) a s j (by simpa using he) (by rw [show n + (i + 1) = n + 1 + i by omega]; exact hp)
      rw [show n + (i + 1) = n + 1 + i by omega] at this
      exact this
    refine ⟨j', ?_, by rw [List.length_cons, show n + (as.length + 1) = n + 1 + as.length by omega]; exact h5⟩
    rw [List.map_cons, forR, h1]
    rcases h2 with h2 | h2
    · simp only [h2]; exact h4
    · simp only [h2]; exact h4
theorem fold_const {α β : Type} {f : α → α} : ∀ {bs : List β} {a : α}, bs.foldl (fun a _ => f a) a = Nat.repeat f bs.length a
  | [], _ => rfl
  | b :: bs, a => by
    rw [List.foldl_cons, fold_const (bs := bs), List.length_cons]
    have : ∀ n a, Nat.repeat f n (f a) = f (Nat.repeat f n a) := fun n a => by
      induction n with
      | zero => rfl
      | succ n ih => show f (Nat.repeat f n (f a)) = _; rw [ih]; rfl
    rw [this]; rfl
theorem rounds_repeat {lot : List Lnk} : ∀ {n : Nat} {f : List Str}, rounds lot n f = Nat.repeat (round lot) n f
  | 0, _ => rfl
  | n + 1, f => by
    show rounds lot n (round lot f) = _
    rw [rounds_repeat]
    have : ∀ n a, Nat.repeat (round lot) n (round lot a) = round lot (Nat.repeat (round lot) n a) := fun n a => by
      induction n with
      | zero => rfl
      | succ n ih => show round lot (Nat.repeat (round lot) n (round lot a)) = _; rw [ih]; rfl
    rw [this]; rfl
theorem rngL_map (n : Nat) : rngL 0 n = (List.range n).map fun (i : Nat) => PyData.int (i : Int) := by
  unfold rngL
  simp
section
variable {ls ms : List Lnk} {l m : Lnk} {ds : List D}
theorem inD_links (hl : PyData.strOk l.x = true ∧ PyData.strOk l.y = true) (h1 : ∀ m ∈ ls, PyData.strOk m.x = true ∧ PyData.strOk m.y = true) : inD (ld l) (.list (ls.map ld)) = some (decide (l ∈ ls)) := by
  show (if okEq (ld l) = true ∧ okEq (.list (ls.map ld)) = true then some ((ls.map ld).any fun z => PyData.eqv z (ld l)) else if dictIn (ld l) (ls.map ld) = true then some false else none) = _
  rw [if_pos ⟨okEq_ld hl.1 hl.2, okEq_l (lay_ld h1)⟩, List.any_map]
  congr 1
  rw [Bool.eq_iff_iff, List.any_eq_true, decide_eq_true_iff]
  constructor
  · rintro ⟨x, hx, e⟩
    have e2 : PyData.eqv (ld x) (ld l) = true := e
    rw [eqv_ld, decide_eq_true_iff] at e2
    subst e2; exact hx
  · intro hx
    refine ⟨l, hx, ?_⟩
    show PyData.eqv (ld l) (ld l) = true
    rw [eqv_ld]; simp
theorem gIn_links (hl : PyData.strOk l.x = true ∧ PyData.strOk l.y = true) (h1 : ∀ m ∈ ls, PyData.strOk m.x = true ∧ PyData.strOk m.y = true) : gIn (ld l) (.list (ls.map ld)) = some (.fr (.bool (decide (l ∈ ls)))) := by
  unfold gIn; rw [inD_links hl h1]; rfl
theorem gNotIn_links (hl : PyData.strOk l.x = true ∧ PyData.strOk l.y = true) (h1 : ∀ m ∈ ls, PyData.strOk m.x = true ∧ PyData.strOk m.y = true) : gNotIn (ld l) (.list (ls.map ld)) = some (.fr (.bool (!decide (l ∈ ls)))) := by
  unfold gNotIn; rw [inD_links hl h1]; rfl
theorem gEq_nil : gEq (.list ds) (.list []) = some (.fr (.bool ds.isEmpty)) := by
  unfold gEq
  split
  · have e : PyData.eqv (.list ds) (.list []) = ds.isEmpty := by
      show PyData.eqvAll ds [] = _
      cases ds <;> simp [PyData.eqvAll]
    rw [e]
  · rfl
theorem gEq_links (h1 : ∀ l ∈ ls, PyData.strOk l.x = true ∧ PyData.strOk l.y = true) (h2 : ∀ l ∈ ms, PyData.strOk l.x = true ∧ PyData.strOk l.y = true) : gEq (.list (ls.map ld)) (.list (ms.map ld)) = some (.fr (.bool (decide (ls = ms)))) := by
  unfold gEq
  rw [if_pos ⟨okEq_l (lay_ld h1), okEq_l (lay_ld h2)⟩]
  show some (B.fr (.bool (PyData.eqvAll (ls.map ld) (ms.map ld)))) = _
  rw [eqvAll_map eqv_ld]
/-- a text in a link -/
theorem gIn_end {s : Str} (hs : PyData.strOk s = true) (hl : PyData.strOk l.x = true ∧ PyData.strOk l.y = true) : gIn (.str s) (ld l) = some (.fr (.bool (decide (l.x = s) || decide (l.y = s)))) := by
  show (if okEq (.str s) = true ∧ okEq (ld l) = true then some ([PyData.int l.c, .int l.m, .str l.x, .str l.y].any fun z => PyData.eqv z (.str s)) else none).map _ = _
  rw [if_pos ⟨okEq_str hs, okEq_ld hl.1 hl.2⟩]
  rw [List.any_cons, List.any_cons, List.any_cons, List.any_cons, List.any_nil, eqv_strs, eqv_strs]
  have i1 : ∀ i : Int, PyData.eqv (.int i) (.str s) = false := fun _ => rfl
  rw [i1, i1]
  simp
end
end FK

set_option Elab.async false
set_option linter.all false
set_option maxRecDepth 100000
set_option maxHeartbeats 1000000
/-! FK 46: [..] * n. -/
namespace FK
open PySem PySem.Spec PyProof.Rows L2
def sMulL (fa fb : SE) : SE := fun ρ => match fa ρ with
  | .ok (.ow (.list ds)) ρ1 => (fb ρ1).frd fun k ρ2 => match k with
    | .int n => if 0 ≤ n ∧ n ≤ 1000 ∧ ds.length ≤ 1000 then .ok (.ow (.list (List.replicate n.toNat ds).flatten)) ρ2 else .bad
    | _ => .bad
  | .exc x ρ1 => .exc x ρ1
  | _ => .bad
theorem RepL.rep {K : Fg} {H : Hp} {vs : List V} {ds : List D} (r : RepL K H vs ds) : ∀ n : Nat, RepL K H (List.replicate n vs).flatten (List.replicate n ds).flatten
  | 0 => .nil
  | n + 1 => by
    rw [List.replicate_succ, List.replicate_succ, List.flatten_cons, List.flatten_cons]
    exact r.append (RepL.rep r n)
section
variable {X : Cx} {T : Tx} {W : WX} {a b : Expr} {fa fb : SE} {pos : Pos}
theorem e_mulL (ha : PE X a (tE T W fa)) (hb : PE X b (tE T W fb)) : PE X (.BinOp a .Mult b pos) (tE T W (sMulL fa fb)) := by
  refine PE.mono (pe_op op_rep ha hb) fun σ H Q ⟨Hz, ρ, F, z, h⟩ => ?_
  refine ⟨Hz, ρ, F, z, ?_⟩
  unfold sMulL at h
  cases e : fa ρ with
  | bad => simp only [e] at h; cases h
  | exc x ρ1 => simp only [e] at h; exact h
  | ok c ρ1 =>
    simp only [e] at h
    cases c with
    | ow d =>
      cases d with
      | list ds =>
        intro v Hz1 H1 F1 z1 s1 pb
        obtain ⟨fp, ⟨l, rfl, rfl, vs, e1, r1⟩, q⟩ := pb
        have h1 := h.fromB s1
        refine ⟨Hz1, ρ1, F1, z1, Aft.imp (Aft.frd h1) fun y H2 ⟨Hz2, F2, d, ρ2, z2, s2, r2, q2⟩ => ?_⟩
        have q3 := q2.fromB s2
        cases d with
        | int n =>
          have q3 : Aft T W Hz2 H2 F2 σ (PB T.K F2) (if 0 ≤ n ∧ n ≤ 1000 ∧ ds.length ≤ 1000 then Rs.ok (.ow (.list (List.replicate n.toNat ds).flatten)) ρ2 else .bad) Q := q3
          by_cases hc : 0 ≤ n ∧ n ≤ 1000 ∧ ds.length ≤ 1000
          · rw [if_pos hc] at q3
            obtain ⟨c1, c2, c3⟩ := hc
            have hl := r1.length
            have hm : vs.length * n.toNat ≤ 1000 * 1000 := Nat.mul_le_mul (by omega) (by omega)
            cases r2
            refine ⟨l, n, vs, rfl, rfl, s2.fr l _ e1 (q l (by simp)).2.1, by omega, by omega, by show _ ≤ 16777216; omega, fun p hp => ?_⟩
            exact Aft.made q3 z2 (New.lst z2.sub hp ((r1.mono s2.z).rep n.toNat))
          · rw [if_neg hc] at q3; cases q3
        | _ => cases q3
      | _ => cases h
    | _ => cases h
end
@[simp] theorem sMulL_eq {a0 : B} {ρ : Env} {fa fb : SE} : sMulL fa fb (a0 :: ρ) = (match fa (a0 :: ρ) with
  | .ok (.ow (.list ds)) ρ1 => (fb ρ1).frd fun k ρ2 => match k with
    | .int n => if 0 ≤ n ∧ n ≤ 1000 ∧ ds.length ≤ 1000 then .ok (.ow (.list (List.replicate n.toNat ds).flatten)) ρ2 else .bad
    | _ => .bad
  | .exc x ρ1 => .exc x ρ1
  | _ => .bad) := rfl
end FK

set_option Elab.async false
set_option linter.all false
set_option maxRecDepth 100000
set_option maxHeartbeats 0
namespace Lw
open PySem PySem.Spec PyProof.Rows L2 FK
abbrev PR : Program := PySem.Challenge.pw_fewkept_k04_nets_made
def top (i : Nat) : Stmt := PR.main.body.getD i (.Pass ⟨0, 0, 0, 0⟩)
noncomputable def b0 (tb : Nat → SE) : SS := /- is_number -/
(sSeq (sRet (sAndV (sUn (gIsi "int") (sVar 0)) (sAndV (sNotV (sUn (gIsi "bool") (sVar 0))) (sChain gLe gLe (sC (.int 0)) (sVar 0) (sVar 1)))))
 sNext)
noncomputable def b1e0 (tb : Nat → SE) : SE :=
(sChain gLe gLe (sC (.str "a")) (sVar 1) (sC (.str "z")))
noncomputable def b1 (tb : Nat → SE) : SS := /- is_place -/
(sSeq (sIfS (sOrT (sNotT (sTru (sUn (gIsi "str") (sVar 0)))) (sNotT (sTest (sChain gLt gLe (sC (.int 0)) (sApp gLen (sCons (sVar 0) sNil)) (sC (.int 6)))))) (sSeq (sRet (sC (.bool false)))
 sNext) sNext)
 (sSeq (sRet (sApp gAll (sCons (sLc [1] (iSeq (sVar 0)) (gNm 1) sYes (b1e0 tb)) sNil)))
 sNext))
noncomputable def b2 (tb : Nat → SE) : SS := /- is_link -/
(sSeq (sIfS (sOrT (sNotT (sTru (sUn (gIsi "tuple") (sVar 0)))) (sTest (sBin gNe (sApp gLen (sCons (sVar 0) sNil)) (sC (.int 4))))) (sSeq (sRet (sC (.bool false)))
 sNext) sNext)
 (sSeq (sAsg (sVar 0) (gTp 4 (gsCons (gNm 1) (gsCons (gNm 2) (gsCons (gNm 3) (gsCons (gNm 4) gsNil))))))
 (sSeq (sIfS (sOrT (sNotT (sTru (sCall (tb 0) (vVal (sVar 1) (vVal (sC (.int 1000000)) vNil))))) (sNotT (sTru (sCall (tb 0) (vVal (sVar 2) (vVal (sC (.int 1000000)) vNil)))))) (sSeq (sRet (sC (.bool false)))
 sNext) sNext)
 (sSeq (sRet (sAndV (sCall (tb 1) (vVal (sVar 3) vNil)) (sAndV (sCall (tb 1) (vVal (sVar 4) vNil)) (sBin gLt (sVar 3) (sVar 4)))))
 sNext))))
noncomputable def b3f0 (tb : Nat → SE) : SS :=
(sSeq (sIfS (sNotT (sTru (sCall (tb 2) (vVal (sVar 2) vNil)))) (sSeq sBad
 sNext) sNext)
 sNext)
noncomputable def b3 (tb : Nat → SE) : SS := /- need_links -/
(sSeq (sIfS (sNotT (sTru (sUn (gIsiT ["list", "tuple"]) (sVar 0)))) (sSeq sBad
 sNext) sNext)
 (sSeq (sFor (iRng gEnum (sCons (sVar 0) sNil)) (gTp 2 (gsCons (gNm 1) (gsCons (gNm 2) gsNil))) (b3f0 tb))
 (sSeq (sRet (sApp gSortedSet (sCons (sVar 0) sNil)))
 sNext)))
noncomputable def b4k0 (tb : Nat → SE) : SE :=
(sVar 10)
noncomputable def b4e0 (tb : Nat → SE) : SE :=
(sBin gAdd (sVar 8) (sVar 9))
noncomputable def b4f0 (tb : Nat → SE) : SS :=
(sSeq (sAsg (sVar 3) (gTp 4 (gsCons (gNm 4) (gsCons (gNm 5) (gsCons (gNm 6) (gsCons (gNm 7) gsNil))))))
 (sSeq (sPar false false 8 9 (sLend 1 (sGet2 (sVar 1) (sVar 6) (sApp gTuple (sCons (sVar 6) sNil)))) (sLend 1 (sGet2 (sVar 1) (sVar 7) (sApp gTuple (sCons (sVar 7) sNil)))))
 (sSeq (sIfS (sTest (sBin gNotIn (sVar 7) (sVar 8))) (sSeq (sAppend 2 (sVar 3))
 (sSeq (sUpd 1 (sDc [10] (iSeq (sBin gAdd (sVar 8) (sVar 9))) (gNm 10) sYes (b4k0 tb) (b4e0 tb)))
 sNext)) sNext)
 sNext)))
noncomputable def b4 (tb : Nat → SE) : SS := /- net_of -/
(sSeq (sPar true true 1 2 (sMk (.ow (.dict []))) (sApp gList sNil))
 (sSeq (sFor (iSeq (sVar 0)) (gNm 3) (b4f0 tb))
 (sSeq (sRet (sMove 2))
 sNext)))
noncomputable def b5e0 (tb : Nat → SE) : SE :=
(sVar 3)
noncomputable def b5c0 (tb : Nat → SE) : STs :=
(sTest (sBin gNotIn (sVar 3) (sVar 2)))
noncomputable def b5k0 (tb : Nat → SE) : SE :=
(sVar 3)
noncomputable def b5e1 (tb : Nat → SE) : SE :=
(sC (.bool true))
noncomputable def b5 (tb : Nat → SE) : SS := /- left_of -/
(sSeq (sSet false 2 (sDc [3] (iSeq (sCall (tb 3) (vVal (sVar 1) vNil))) (gNm 3) sYes (b5k0 tb) (b5e1 tb)))
 (sSeq (sRet (sLc [3] (iSeq (sVar 0)) (gNm 3) (b5c0 tb) (b5e0 tb)))
 sNext))
noncomputable def b6 (tb : Nat → SE) : SS := /- net -/
(sSeq (sRet (sCall (tb 4) (vVal (sCall (tb 5) (vVal (sCall (tb 3) (vVal (sVar 0) vNil)) (vVal (sVar 1) vNil))) vNil)))
 sNext)
noncomputable def b7 (tb : Nat → SE) : SS := /- _law_begun -/
(sSeq (sRet (sApp gList (sCons (sApp gMax (sCons (sC (.int 0)) (sCons (sBin gSub (sVar 0) (sBin gPow (sC (.int 10)) (sC (.int 18)))) sNil))) (sCons (sBin gAdd (sVar 0) (sBin gMul (sC (.int 977)) (sVar 1))) (sCons (sC (.int 0)) sNil)))))
 sNext)
noncomputable def b8 (tb : Nat → SE) : SS := /- _law_next -/
(sSeq (sIfS (sTest (sBin gGt (sLend 0 (sBin gIx (sVar 0) (sC (.int 0)))) (sC (.int 0)))) (sSeq (sSet false 2 (sBin gMod (sLend 0 (sBin gIx (sVar 0) (sC (.int 0)))) (sVar 1)))
 (sSeq (sSetL 0 (sC (.int 0)) (sBin gFdiv (sLend 0 (sBin gIx (sVar 0) (sC (.int 0)))) (sVar 1)))
 (sSeq (sRet (sVar 2))
 sNext))) sNext)
 (sSeq (sSetL 0 (sC (.int 2)) (sBin gAdd (sLend 0 (sBin gIx (sVar 0) (sC (.int 2)))) (sC (.int 1))))
 (sSeq (sSet false 2 (sBin gAdd (sBin gMod (sLend 0 (sBin gIx (sVar 0) (sC (.int 1)))) (sC (.int 2147483629))) (sBin gMul (sC (.int 104729)) (sLend 0 (sBin gIx (sVar 0) (sC (.int 2)))))))
 (sSeq (sSet false 2 (sBin gMul (sVar 2) (sBin gAdd (sBin gAdd (sBin gMod (sLend 0 (sBin gIx (sVar 0) (sC (.int 1)))) (sC (.int 2147483587))) (sBin gMul (sBin gMul (sC (.int 7919)) (sLend 0 (sBin gIx (sVar 0) (sC (.int 2))))) (sLend 0 (sBin gIx (sVar 0) (sC (.int 2)))))) (sC (.int 11)))))
 (sSeq (sRet (sBin gMod (sBin gFdiv (sBin gMod (sBin gPow (sVar 2) (sC (.int 3))) (sC (.int 2147483647))) (sC (.int 11))) (sVar 1)))
 sNext)))))
noncomputable def b9 (tb : Nat → SE) : SS := /- _law_pick -/
(sSeq (sRet (sBin gIx (sVar 1) (sCall (tb 8) (vIo 0 (vVal (sApp gLen (sCons (sVar 1) sNil)) vNil)))))
 sNext)
noncomputable def b10e0 (tb : Nat → SE) : SE :=
(sBin gAdd (sSl (sVar 5) pNone (pSome (sC (.int 5)))) (sVar 6))
noncomputable def b10c0 (tb : Nat → SE) : STs :=
(sLendT 3 (sTest (sBin gNotIn (sBin gAdd (sSl (sVar 5) pNone (pSome (sC (.int 5)))) (sVar 6)) (sVar 3))))
noncomputable def b10e1 (tb : Nat → SE) : SE :=
(sCall (tb 9) (vIo 0 (vVal (sC (.str "etaoinshrdlcumwfgypbvkjxqz")) vNil)))
noncomputable def b10f0 (tb : Nat → SE) : SS :=
(sSeq (sSet false 5 (sCall (tb 9) (vIo 0 (vVal (sVar 2) vNil))))
 (sSeq (sIfS (sTest (sBin gGt (sCall (tb 8) (vIo 0 (vVal (sC (.int 3)) vNil))) (sC (.int 0)))) (sSeq (sSet false 5 (sStrM gJoin (sC (.str "")) (sLc [6] (iRng gRng1 (sCons (sBin gAdd (sC (.int 1)) (sCall (tb 8) (vIo 0 (vVal (sC (.int 6)) vNil)))) sNil)) (gNm 6) sYes (b10e1 tb))))
 sNext) sNext)
 (sSeq (sIfS (sLendT 3 (sTest (sBin gIn (sVar 5) (sVar 3)))) (sSeq (sSet false 5 (sBin gIx (sLc [6] (iSeq (sC (.str "abcdefghijklmnopqrstuvwxyz"))) (gNm 6) (b10c0 tb) (b10e0 tb)) (sC (.int 0))))
 sNext) sNext)
 (sSeq (sAppend 3 (sVar 5))
 sNext))))
noncomputable def b10 (tb : Nat → SE) : SS := /- _law_spots -/
(sSeq (sPar false true 2 3 (sApp gList (sCons (sC (.str "link")) (sCons (sC (.str "strike")) (sCons (sC (.str "net")) (sCons (sC (.str "sure")) (sCons (sC (.str "why")) (sCons (sC (.str "wide")) (sCons (sC (.str "keeps")) (sCons (sC (.str "struck")) (sCons (sC (.str "left")) (sCons (sC (.str "known")) (sCons (sC (.str "new")) (sCons (sC (.str "in")) sNil))))))))))))) (sApp gList sNil))
 (sSeq (sFor (iRng gRng1 (sCons (sVar 1) sNil)) (gNm 4) (b10f0 tb))
 (sSeq (sRet (sLend 3 (sApp gSorted (sCons (sVar 3) sNil))))
 sNext)))
noncomputable def b11e0 (tb : Nat → SE) : SE :=
(sVar 9)
noncomputable def b11c0 (tb : Nat → SE) : STs :=
(sOrT (sTest (sBin gIn (sBin gIx (sVar 9) (sC (.int 0))) (sVar 6))) (sTest (sBin gIn (sBin gIx (sVar 9) (sC (.int 1))) (sVar 6))))
noncomputable def b11e1 (tb : Nat → SE) : SE :=
(sCall (tb 9) (vIo 0 (vVal (sVar 2) vNil)))
noncomputable def b11e2 (tb : Nat → SE) : SE :=
(sApp gTuple (sCons (sVar 5) (sCons (sVar 7) sNil)))
noncomputable def b11f0 (tb : Nat → SE) : SS :=
(sSeq (sSet false 2 (sBin gAdd (sVar 2) (sLc [7] (iSeq (sSl (sVar 1) (pSome (sBin gAdd (sVar 4) (sC (.int 1)))) pNone)) (gNm 7) sYes (b11e2 tb))))
 sNext)
noncomputable def b11 (tb : Nat → SE) : SS := /- _law_pairs -/
(sSeq (sPar false false 2 3 (sApp gList sNil) (sCall (tb 8) (vIo 0 (vVal (sC (.int 4)) vNil))))
 (sSeq (sFor (iRng gEnum (sCons (sVar 1) sNil)) (gTp 2 (gsCons (gNm 4) (gsCons (gNm 5) gsNil))) (b11f0 tb))
 (sSeq (sIfS (sOrT (sTest (sBin gEq (sVar 3) (sC (.int 0)))) (sTest (sBin gEq (sApp gLen (sCons (sVar 1) sNil)) (sC (.int 2))))) (sSeq (sRet (sVar 2))
 sNext) sNext)
 (sSeq (sIfS (sTest (sBin gEq (sVar 3) (sC (.int 1)))) (sSeq (sRet (sLc [8] (iRng gRng1 (sCons (sC (.int 3)) sNil)) (gNm 8) sYes (b11e1 tb)))
 sNext) sNext)
 (sSeq (sIfS (sTest (sBin gEq (sVar 3) (sC (.int 2)))) (sSeq (sSet false 6 (sApp gList (sCons (sCall (tb 9) (vIo 0 (vVal (sVar 1) vNil))) (sCons (sCall (tb 9) (vIo 0 (vVal (sVar 1) vNil))) sNil))))
 (sSeq (sRet (sLc [9] (iSeq (sVar 2)) (gNm 9) (b11c0 tb) (b11e0 tb)))
 sNext)) sNext)
 (sSeq (sRet (sApp gLz (sCons (sVar 1) (sCons (sSl (sVar 1) (pSome (sC (.int 1))) pNone) sNil))))
 sNext))))))
noncomputable def b12 (tb : Nat → SE) : SS := /- _law_link -/
(sSeq (sAsg (sCall (tb 9) (vIo 0 (vVal (sVar 1) vNil))) (gTp 2 (gsCons (gNm 2) (gsCons (gNm 3) gsNil))))
 (sSeq (sSet false 4 (sCall (tb 9) (vIo 0 (vVal (sApp gList (sCons (sC (.int 0)) (sCons (sC (.int 1)) (sCons (sC (.int 2)) (sCons (sC (.int 3)) (sCons (sBin gPow (sC (.int 10)) (sC (.int 6))) (sCons (sCall (tb 8) (vIo 0 (vVal (sBin gAdd (sBin gPow (sC (.int 10)) (sC (.int 6))) (sC (.int 1))) vNil))) sNil))))))) vNil))))
 (sSeq (sRet (sApp gTuple (sCons (sVar 4) (sCons (sCall (tb 9) (vIo 0 (vVal (sApp gList (sCons (sC (.int 0)) (sCons (sC (.int 1)) (sCons (sC (.int 2)) (sCons (sCall (tb 8) (vIo 0 (vVal (sBin gAdd (sBin gPow (sC (.int 10)) (sC (.int 6))) (sC (.int 1))) vNil))) sNil))))) vNil))) (sCons (sVar 2) (sCons (sVar 3) sNil))))))
 sNext)))
noncomputable def b13f0 (tb : Nat → SE) : SS :=
(sSeq (sSet false 6 (sAndV (sBin gEq (sCall (tb 8) (vIo 0 (vVal (sC (.int 8)) vNil))) (sC (.int 0))) (sLend 4 (sBin gNe (sVar 4) (sApp gList sNil)))))
 (sSeq (sAppend 4 (sIf (sTru (sVar 6)) (sLend 4 (sCall (tb 9) (vIo 0 (vVal (sVar 4) vNil)))) (sCall (tb 12) (vIo 0 (vVal (sVar 3) vNil)))))
 sNext))
noncomputable def b13 (tb : Nat → SE) : SS := /- _law_links -/
(sSeq (sPar false true 3 4 (sCall (tb 11) (vIo 0 (vVal (sVar 2) vNil))) (sApp gList sNil))
 (sSeq (sFor (iRng gRng1 (sCons (sCall (tb 8) (vIo 0 (vVal (sBin gAdd (sVar 1) (sC (.int 1))) vNil))) sNil)) (gNm 5) (b13f0 tb))
 (sSeq (sRet (sMove 4))
 sNext)))
noncomputable def b14 (tb : Nat → SE) : SS := /- _law_many -/
(sSeq (sRet (sIf (sTest (sBin gEq (sCall (tb 8) (vIo 0 (vVal (sC (.int 8)) vNil))) (sC (.int 0)))) (sBin gAdd (sC (.int 2)) (sCall (tb 8) (vIo 0 (vVal (sBin gSub (sVar 1) (sC (.int 1))) vNil)))) (sBin gAdd (sC (.int 2)) (sCall (tb 8) (vIo 0 (vVal (sC (.int 4)) vNil))))))
 sNext)
noncomputable def b15e0 (tb : Nat → SE) : SE :=
(sVar 5)
noncomputable def b15c0 (tb : Nat → SE) : STs :=
(sTest (sBin gEq (sCall (tb 8) (vIo 0 (vVal (sC (.int 3)) vNil))) (sC (.int 0))))
noncomputable def b15e1 (tb : Nat → SE) : SE :=
(sVar 5)
noncomputable def b15c1 (tb : Nat → SE) : STs :=
(sTest (sBin gIn (sVar 3) (sVar 5)))
noncomputable def b15 (tb : Nat → SE) : SS := /- _law_gone -/
(sSeq (sSet false 2 (sCall (tb 8) (vIo 0 (vVal (sC (.int 5)) vNil))))
 (sSeq (sIfS (sOrT (sTest (sBin gEq (sVar 2) (sC (.int 0)))) (sTest (sBin gEq (sVar 1) (sApp gList sNil)))) (sSeq (sRet (sMulL (sApp gList (sCons (sApp gTuple (sCons (sC (.int 1)) (sCons (sC (.int 1)) (sCons (sC (.str "a")) (sCons (sC (.str "b")) sNil))))) sNil)) (sCall (tb 8) (vIo 0 (vVal (sC (.int 2)) vNil)))))
 sNext) sNext)
 (sSeq (sIfS (sTest (sBin gEq (sVar 2) (sC (.int 1)))) (sSeq (sSet false 3 (sBin gIx (sCall (tb 9) (vIo 0 (vVal (sVar 1) vNil))) (sC (.int 2))))
 (sSeq (sRet (sLc [5] (iSeq (sVar 1)) (gNm 5) (b15c1 tb) (b15e1 tb)))
 sNext)) sNext)
 (sSeq (sSet false 4 (sLc [5] (iSeq (sVar 1)) (gNm 5) (b15c0 tb) (b15e0 tb)))
 (sSeq (sRet (sIf (sTest (sBin gEq (sVar 2) (sC (.int 2)))) (sBin gAdd (sVar 4) (sApp gList (sCons (sApp gTuple (sCons (sC (.int 0)) (sCons (sC (.int 0)) (sCons (sC (.str "zz")) (sCons (sC (.str "zzz")) sNil))))) sNil))) (sUn gRev (sVar 4))))
 sNext)))))
noncomputable def b16f0 (tb : Nat → SE) : SS :=
(sSeq (sIfS (sTest (sBin gNe (sLend 2 (sBin gIn (sBin gIx (sVar 4) (sC (.int 2))) (sVar 2))) (sLend 2 (sBin gIn (sBin gIx (sVar 4) (sC (.int 3))) (sVar 2))))) (sSeq (sAppend 2 (sIf (sLendT 2 (sTest (sBin gIn (sBin gIx (sVar 4) (sC (.int 2))) (sVar 2)))) (sBin gIx (sVar 4) (sC (.int 3))) (sBin gIx (sVar 4) (sC (.int 2)))))
 sNext) sNext)
 sNext)
noncomputable def b16f1 (tb : Nat → SE) : SS :=
(sSeq (sFor (iSeq (sVar 0)) (gNm 4) (b16f0 tb))
 sNext)
noncomputable def b16 (tb : Nat → SE) : SS := /- _law_near -/
(sSeq (sSet true 2 (sApp gList (sCons (sVar 1) sNil)))
 (sSeq (sFor (iRng gRng1 (sCons (sApp gLen (sCons (sVar 0) sNil)) sNil)) (gNm 3) (b16f1 tb))
 (sSeq (sRet (sMove 2))
 sNext)))
noncomputable def b17f0 (tb : Nat → SE) : SS :=
(sSeq (sPut 1 (sVar 6) (sBin gAdd (sVar 4) (sVar 5)))
 sNext)
noncomputable def b17f1 (tb : Nat → SE) : SS :=
(sSeq (sPar false false 4 5 (sLend 1 (sGet2 (sVar 1) (sBin gIx (sVar 3) (sC (.int 2))) (sApp gTuple (sCons (sBin gIx (sVar 3) (sC (.int 2))) sNil)))) (sLend 1 (sGet2 (sVar 1) (sBin gIx (sVar 3) (sC (.int 3))) (sApp gTuple (sCons (sBin gIx (sVar 3) (sC (.int 3))) sNil)))))
 (sSeq (sIfS (sTest (sBin gNotIn (sBin gIx (sVar 3) (sC (.int 3))) (sVar 4))) (sSeq (sAppend 2 (sVar 3))
 (sSeq (sFor (iSeq (sBin gAdd (sVar 4) (sVar 5))) (gNm 6) (b17f0 tb))
 sNext)) sNext)
 sNext))
noncomputable def b17 (tb : Nat → SE) : SS := /- _law_by_groups -/
(sSeq (sPar true true 1 2 (sMk (.ow (.dict []))) (sApp gList sNil))
 (sSeq (sFor (iSeq (sVar 0)) (gNm 3) (b17f1 tb))
 (sSeq (sRet (sMove 2))
 sNext)))
noncomputable def b18e0 (tb : Nat → SE) : SE :=
(sVar 12)
noncomputable def b18c0 (tb : Nat → SE) : STs :=
(sTest (sBin gNotIn (sBin gIx (sVar 12) (sC (.int 3))) (sCall (tb 16) (vVal (sSl (sVar 2) pNone (pSome (sVar 13))) (vVal (sBin gIx (sVar 12) (sC (.int 2))) vNil)))))
noncomputable def b18f0 (tb : Nat → SE) : SS :=
(sSeq (sSet true 11 (sCall (tb 6) (vApp (vVal (sVar 9) vNil) (vVal (sVar 10) vNil))))
 (sSeq (sIfS (sOrT (sNotT (sTru (sLend 11 (sUn (gIsi "list") (sVar 11))))) (sLendT 11 (sTest (sBin gNe (sVar 11) (sVar 8))))) (sSeq (sRet (sC (.bool false)))
 sNext) sNext)
 (sSeq (sAppend 11 (sC (.str "x")))
 (sSeq (sIfS (sOrT (sTest (sBin gNe (sCall (tb 6) (vApp (vVal (sVar 9) vNil) (vVal (sVar 10) vNil))) (sVar 8))) (sOrT (sTest (sBin gNe (sApp gListOf (sCons (sVar 9) sNil)) (sVar 7))) (sTest (sBin gNe (sApp gListOf (sCons (sVar 10) sNil)) (sVar 3))))) (sSeq (sRet (sC (.bool false)))
 sNext) sNext)
 sNext))))
noncomputable def b18e1 (tb : Nat → SE) : SE :=
(sVar 12)
noncomputable def b18c1 (tb : Nat → SE) : STs :=
(sTest (sBin gNotIn (sBin gIx (sVar 12) (sC (.int 3))) (sCall (tb 16) (vVal (sSl (sVar 2) pNone (pSome (sVar 13))) (vVal (sBin gIx (sVar 12) (sC (.int 2))) vNil)))))
noncomputable def b18e2 (tb : Nat → SE) : SE :=
(sVar 12)
noncomputable def b18c2 (tb : Nat → SE) : STs :=
(sTest (sBin gNotIn (sVar 12) (sVar 3)))
noncomputable def b18f1 (tb : Nat → SE) : SS :=
(sSeq (sSet true 1 (sCall (tb 7) (vVal (sVar 5) (vVal (sVar 4) vNil))))
 (sSeq (sSet false 6 (sCall (tb 10) (vIo 1 (vVal (sCall (tb 14) (vIo 1 (vVal (sC (.int 12)) vNil))) vNil))))
 (sSeq (sSet false 7 (sCall (tb 13) (vIo 1 (vVal (sC (.int 12)) (vVal (sVar 6) vNil)))))
 (sSeq (sSet false 3 (sCall (tb 15) (vIo 1 (vVal (sVar 7) vNil))))
 (sSeq (sSet false 2 (sApp gSortedSet (sCons (sLc [12] (iSeq (sVar 7)) (gNm 12) (b18c2 tb) (b18e2 tb)) sNil)))
 (sSeq (sSet false 8 (sLc [13, 12] (iRng gEnum (sCons (sVar 2) sNil)) (gTp 2 (gsCons (gNm 13) (gsCons (gNm 12) gsNil))) (b18c1 tb) (b18e1 tb)))
 (sSeq (sFor (iSeq (sApp gList (sCons (sApp gTuple (sCons (sApp gListOf (sCons (sVar 7) sNil)) (sCons (sApp gListOf (sCons (sVar 3) sNil)) sNil))) (sCons (sApp gTuple (sCons (sApp gTupleOf (sCons (sVar 7) sNil)) (sCons (sApp gTupleOf (sCons (sVar 3) sNil)) sNil))) sNil)))) (gTp 2 (gsCons (gNm 9) (gsCons (gNm 10) gsNil))) (b18f0 tb))
 (sSeq (sSet false 2 (sApp gSortedSet (sCons (sVar 7) sNil)))
 (sSeq (sSet false 8 (sLc [13, 12] (iRng gEnum (sCons (sVar 2) sNil)) (gTp 2 (gsCons (gNm 13) (gsCons (gNm 12) gsNil))) (b18c0 tb) (b18e0 tb)))
 (sSeq (sIfS (sOrT (sTest (sBin gNe (sCall (tb 6) (vApp (vVal (sVar 7) vNil) vT0)) (sVar 8))) (sOrT (sTest (sBin gNe (sCall (tb 6) (vApp (vVal (sVar 2) vNil) (vVal (sApp gList sNil) vNil))) (sVar 8))) (sTest (sBin gNe (sCall (tb 6) (vApp (vVal (sUn gRev (sVar 2)) vNil) vT0)) (sVar 8))))) (sSeq (sRet (sC (.bool false)))
 sNext) sNext)
 sNext))))))))))
noncomputable def b18e3 (tb : Nat → SE) : SE :=
(sVar 12)
noncomputable def b18c3 (tb : Nat → SE) : STs :=
(sTest (sBin gNotIn (sVar 12) (sVar 3)))
noncomputable def b18e4 (tb : Nat → SE) : SE :=
(sVar 12)
noncomputable def b18c4 (tb : Nat → SE) : STs :=
(sTest (sBin gGt (sCall (tb 8) (vIo 1 (vVal (sC (.int 3)) vNil))) (sC (.int 0))))
noncomputable def b18 (tb : Nat → SE) : SS := /- law -/
(sSeq (sSet true 1 (sCall (tb 7) (vVal (sBin gIx (sOrV (sVar 0) (sApp gList (sCons (sC (.int 5)) sNil))) (sC (.int 0))) (vVal (sC (.int 9)) vNil))))
 (sSeq (sSet false 2 (sApp gSortedSet (sCons (sCall (tb 13) (vIo 1 (vVal (sC (.int 200)) (vVal (sCall (tb 10) (vIo 1 (vVal (sBin gAdd (sC (.int 2)) (sCall (tb 8) (vIo 1 (vVal (sC (.int 11)) vNil)))) vNil))) vNil)))) sNil)))
 (sSeq (sIfS (sTest (sBin gNe (sCall (tb 6) (vApp (vVal (sUn gRev (sVar 2)) vNil) vT0)) (sCall (tb 17) (vVal (sVar 2) vNil)))) (sSeq (sRet (sC (.bool false)))
 sNext) sNext)
 (sSeq (sSet false 3 (sLc [12] (iSeq (sVar 2)) (gNm 12) (b18c4 tb) (b18e4 tb)))
 (sSeq (sIfS (sTest (sBin gNe (sCall (tb 6) (vApp (vVal (sUn gRev (sVar 2)) vNil) (vVal (sVar 3) vNil))) (sCall (tb 17) (vVal (sLc [12] (iSeq (sVar 2)) (gNm 12) (b18c3 tb) (b18e3 tb)) vNil)))) (sSeq (sRet (sC (.bool false)))
 sNext) sNext)
 (sSeq (sFor (iRng gEnum (sCons (sSl (sOrV (sVar 0) (sApp gList (sCons (sC (.int 5)) sNil))) pNone (pSome (sC (.int 6)))) sNil)) (gTp 2 (gsCons (gNm 4) (gsCons (gNm 5) gsNil))) (b18f1 tb))
 (sSeq (sRet (sAndV (sBin gEq (sCall (tb 6) (vApp (vVal (sApp gList sNil) vNil) vT0)) (sApp gList sNil)) (sBin gEq (sCall (tb 6) (vApp (vVal (sApp gList sNil) vNil) (vVal (sApp gList (sCons (sApp gTuple (sCons (sC (.int 1)) (sCons (sC (.int 1)) (sCons (sC (.str "a")) (sCons (sC (.str "b")) sNil))))) sNil)) vNil))) (sApp gList sNil))))
 sNext)))))))
abbrev st0 : Stmt := top 6
abbrev N0 : List Str := ["thing", "most"]
abbrev ps0 : List Str := ["thing", "most"]
theorem sc0 : FnScope N0 ps0 (defScope st0) := ⟨rfl, rfl, rfl, by decide +kernel, rfl, by decide +kernel, by decide +kernel⟩
abbrev st1 : Stmt := top 7
abbrev N1 : List Str := ["thing", "sign"]
abbrev ps1 : List Str := ["thing"]
theorem sc1 : FnScope N1 ps1 (defScope st1) := ⟨rfl, rfl, rfl, by decide +kernel, rfl, by decide +kernel, by decide +kernel⟩
abbrev st2 : Stmt := top 8
abbrev N2 : List Str := ["thing", "cost", "mark", "one", "other"]
abbrev ps2 : List Str := ["thing"]
theorem sc2 : FnScope N2 ps2 (defScope st2) := ⟨rfl, rfl, rfl, by decide +kernel, rfl, by decide +kernel, by decide +kernel⟩
abbrev st3 : Stmt := top 9
abbrev N3 : List Str := ["links", "at", "link"]
abbrev ps3 : List Str := ["links"]
theorem sc3 : FnScope N3 ps3 (defScope st3) := ⟨rfl, rfl, rfl, by decide +kernel, rfl, by decide +kernel, by decide +kernel⟩
abbrev st4 : Stmt := top 11
abbrev N4 : List Str := ["row", "lots", "found", "link", "cost", "mark", "one", "other", "here", "there", "place"]
abbrev ps4 : List Str := ["row"]
theorem sc4 : FnScope N4 ps4 (defScope st4) := ⟨rfl, rfl, rfl, by decide +kernel, rfl, by decide +kernel, by decide +kernel⟩
abbrev st5 : Stmt := top 12
abbrev N5 : List Str := ["links", "struck", "gone", "link"]
abbrev ps5 : List Str := ["links", "struck"]
theorem sc5 : FnScope N5 ps5 (defScope st5) := ⟨rfl, rfl, rfl, by decide +kernel, rfl, by decide +kernel, by decide +kernel⟩
abbrev st6 : Stmt := top 13
abbrev N6 : List Str := ["links", "struck"]
abbrev ps6 : List Str := ["links", "struck"]
theorem sc6 : FnScope N6 ps6 (defScope st6) := ⟨rfl, rfl, rfl, by decide +kernel, rfl, by decide +kernel, by decide +kernel⟩
abbrev st7 : Stmt := top 15
abbrev N7 : List Str := ["cell", "k"]
abbrev ps7 : List Str := ["cell", "k"]
theorem sc7 : FnScope N7 ps7 (defScope st7) := ⟨rfl, rfl, rfl, by decide +kernel, rfl, by decide +kernel, by decide +kernel⟩
abbrev st8 : Stmt := top 16
abbrev N8 : List Str := ["draw", "size", "found"]
abbrev ps8 : List Str := ["draw", "size"]
theorem sc8 : FnScope N8 ps8 (defScope st8) := ⟨rfl, rfl, rfl, by decide +kernel, rfl, by decide +kernel, by decide +kernel⟩
abbrev st9 : Stmt := top 17
abbrev N9 : List Str := ["draw", "some"]
abbrev ps9 : List Str := ["draw", "some"]
theorem sc9 : FnScope N9 ps9 (defScope st9) := ⟨rfl, rfl, rfl, by decide +kernel, rfl, by decide +kernel, by decide +kernel⟩
abbrev st10 : Stmt := top 18
abbrev N10 : List Str := ["draw", "many", "own", "found", "k", "name", "sign"]
abbrev ps10 : List Str := ["draw", "many"]
theorem sc10 : FnScope N10 ps10 (defScope st10) := ⟨rfl, rfl, rfl, by decide +kernel, rfl, by decide +kernel, by decide +kernel⟩
abbrev st11 : Stmt := top 19
abbrev N11 : List Str := ["draw", "spots", "every", "way", "at", "one", "poles", "other", "turn", "pair"]
abbrev ps11 : List Str := ["draw", "spots"]
theorem sc11 : FnScope N11 ps11 (defScope st11) := ⟨rfl, rfl, rfl, by decide +kernel, rfl, by decide +kernel, by decide +kernel⟩
abbrev st12 : Stmt := top 20
abbrev N12 : List Str := ["draw", "pairs", "one", "other", "cost"]
abbrev ps12 : List Str := ["draw", "pairs"]
theorem sc12 : FnScope N12 ps12 (defScope st12) := ⟨rfl, rfl, rfl, by decide +kernel, rfl, by decide +kernel, by decide +kernel⟩
abbrev st13 : Stmt := top 21
abbrev N13 : List Str := ["draw", "most", "spots", "pairs", "found", "turn", "again"]
abbrev ps13 : List Str := ["draw", "most", "spots"]
theorem sc13 : FnScope N13 ps13 (defScope st13) := ⟨rfl, rfl, rfl, by decide +kernel, rfl, by decide +kernel, by decide +kernel⟩
abbrev st14 : Stmt := top 22
abbrev N14 : List Str := ["draw", "most"]
abbrev ps14 : List Str := ["draw", "most"]
theorem sc14 : FnScope N14 ps14 (defScope st14) := ⟨rfl, rfl, rfl, by decide +kernel, rfl, by decide +kernel, by decide +kernel⟩
abbrev st15 : Stmt := top 23
abbrev N15 : List Str := ["draw", "lot", "way", "spot", "found", "link"]
abbrev ps15 : List Str := ["draw", "lot"]
theorem sc15 : FnScope N15 ps15 (defScope st15) := ⟨rfl, rfl, rfl, by decide +kernel, rfl, by decide +kernel, by decide +kernel⟩
abbrev st16 : Stmt := top 24
abbrev N16 : List Str := ["lot", "spot", "found", "turn", "link"]
abbrev ps16 : List Str := ["lot", "spot"]
theorem sc16 : FnScope N16 ps16 (defScope st16) := ⟨rfl, rfl, rfl, by decide +kernel, rfl, by decide +kernel, by decide +kernel⟩
abbrev st17 : Stmt := top 25
abbrev N17 : List Str := ["row", "group", "found", "link", "one", "other", "spot"]
abbrev ps17 : List Str := ["row"]
theorem sc17 : FnScope N17 ps17 (defScope st17) := ⟨rfl, rfl, rfl, by decide +kernel, rfl, by decide +kernel, by decide +kernel⟩
abbrev st18 : Stmt := top 26
abbrev N18 : List Str := ["script", "draw", "row", "gone", "k", "cell", "spots", "lot", "due", "handed", "taken", "told", "link", "at"]
abbrev ps18 : List Str := ["script"]
theorem sc18 : FnScope N18 ps18 (defScope st18) := ⟨rfl, rfl, rfl, by decide +kernel, rfl, by decide +kernel, by decide +kernel⟩
noncomputable abbrev pds : List PD := [⟨b0, 2, 2, []⟩, ⟨b1, 1, 2, []⟩, ⟨b2, 1, 5, []⟩, ⟨b3, 1, 3, []⟩, ⟨b4, 1, 11, []⟩, ⟨b5, 2, 4, []⟩, ⟨b6, 2, 2, []⟩, ⟨b7, 2, 2, []⟩, ⟨b8, 2, 3, [0]⟩, ⟨b9, 2, 2, [0]⟩, ⟨b10, 2, 7, [0]⟩, ⟨b11, 2, 10, [0]⟩, ⟨b12, 2, 5, [0]⟩, ⟨b13, 3, 7, [0]⟩, ⟨b14, 2, 2, [0]⟩, ⟨b15, 2, 6, [0]⟩, ⟨b16, 2, 5, []⟩, ⟨b17, 1, 7, []⟩, ⟨b18, 1, 14, []⟩]
theorem e0 {k : Nat} {bs : List B} : sem pds (k + 1) 0 bs = runDef (b0 (sem pds k)) 2 2 [] bs := rfl
theorem e1 {k : Nat} {bs : List B} : sem pds (k + 1) 1 bs = runDef (b1 (sem pds k)) 1 2 [] bs := rfl
theorem e2 {k : Nat} {bs : List B} : sem pds (k + 1) 2 bs = runDef (b2 (sem pds k)) 1 5 [] bs := rfl
theorem e3 {k : Nat} {bs : List B} : sem pds (k + 1) 3 bs = runDef (b3 (sem pds k)) 1 3 [] bs := rfl
theorem e4 {k : Nat} {bs : List B} : sem pds (k + 1) 4 bs = runDef (b4 (sem pds k)) 1 11 [] bs := rfl
theorem e5 {k : Nat} {bs : List B} : sem pds (k + 1) 5 bs = runDef (b5 (sem pds k)) 2 4 [] bs := rfl
theorem e6 {k : Nat} {bs : List B} : sem pds (k + 1) 6 bs = runDef (b6 (sem pds k)) 2 2 [] bs := rfl
theorem e7 {k : Nat} {bs : List B} : sem pds (k + 1) 7 bs = runDef (b7 (sem pds k)) 2 2 [] bs := rfl
theorem e8 {k : Nat} {bs : List B} : sem pds (k + 1) 8 bs = runDef (b8 (sem pds k)) 2 3 [0] bs := rfl
theorem e9 {k : Nat} {bs : List B} : sem pds (k + 1) 9 bs = runDef (b9 (sem pds k)) 2 2 [0] bs := rfl
theorem e10 {k : Nat} {bs : List B} : sem pds (k + 1) 10 bs = runDef (b10 (sem pds k)) 2 7 [0] bs := rfl
theorem e11 {k : Nat} {bs : List B} : sem pds (k + 1) 11 bs = runDef (b11 (sem pds k)) 2 10 [0] bs := rfl
theorem e12 {k : Nat} {bs : List B} : sem pds (k + 1) 12 bs = runDef (b12 (sem pds k)) 2 5 [0] bs := rfl
theorem e13 {k : Nat} {bs : List B} : sem pds (k + 1) 13 bs = runDef (b13 (sem pds k)) 3 7 [0] bs := rfl
theorem e14 {k : Nat} {bs : List B} : sem pds (k + 1) 14 bs = runDef (b14 (sem pds k)) 2 2 [0] bs := rfl
theorem e15 {k : Nat} {bs : List B} : sem pds (k + 1) 15 bs = runDef (b15 (sem pds k)) 2 6 [0] bs := rfl
theorem e16 {k : Nat} {bs : List B} : sem pds (k + 1) 16 bs = runDef (b16 (sem pds k)) 2 5 [] bs := rfl
theorem e17 {k : Nat} {bs : List B} : sem pds (k + 1) 17 bs = runDef (b17 (sem pds k)) 1 7 [] bs := rfl
theorem e18 {k : Nat} {bs : List B} : sem pds (k + 1) 18 bs = runDef (b18 (sem pds k)) 1 14 [] bs := rfl
abbrev ats : List (Str × Option Str) := [("is_number", none), ("is_place", none), ("is_link", none), ("need_links", none), ("net_of", none), ("left_of", none), ("net", none), ("_law_begun", none), ("_law_next", none), ("_law_pick", none), ("_law_spots", none), ("_law_pairs", none), ("_law_link", none), ("_law_links", none), ("_law_many", none), ("_law_gone", none), ("_law_near", none), ("_law_by_groups", none), ("law", none)]
abbrev pss : List (List Str) := [ps0, ps1, ps2, ps3, ps4, ps5, ps6, ps7, ps8, ps9, ps10, ps11, ps12, ps13, ps14, ps15, ps16, ps17, ps18]
abbrev TT (K : Fg) : Tx := ⟨K, fun _ _ _ _ _ => False⟩
structure G (K : Fg) (mg : Str → Option Value) (fds : Nat → FuncData) : Prop where
  F0 : FunD K "is_number" "is_number" (defArgs st0) (defBody st0) (defScope st0) [] [] (He.fAd K ("is_number", none)) (fds 0)
  a0 : FnAt K mg "is_number" (He.fAd K ("is_number", none)) (fds 0) ps0
  F1 : FunD K "is_place" "is_place" (defArgs st1) (defBody st1) (defScope st1) [] [] (He.fAd K ("is_place", none)) (fds 1)
  a1 : FnAt K mg "is_place" (He.fAd K ("is_place", none)) (fds 1) ps1
  F2 : FunD K "is_link" "is_link" (defArgs st2) (defBody st2) (defScope st2) [] [] (He.fAd K ("is_link", none)) (fds 2)
  a2 : FnAt K mg "is_link" (He.fAd K ("is_link", none)) (fds 2) ps2
  F3 : FunD K "need_links" "need_links" (defArgs st3) (defBody st3) (defScope st3) [] [] (He.fAd K ("need_links", none)) (fds 3)
  a3 : FnAt K mg "need_links" (He.fAd K ("need_links", none)) (fds 3) ps3
  F4 : FunD K "net_of" "net_of" (defArgs st4) (defBody st4) (defScope st4) [] [] (He.fAd K ("net_of", none)) (fds 4)
  a4 : FnAt K mg "net_of" (He.fAd K ("net_of", none)) (fds 4) ps4
  F5 : FunD K "left_of" "left_of" (defArgs st5) (defBody st5) (defScope st5) [] [] (He.fAd K ("left_of", none)) (fds 5)
  a5 : FnAt K mg "left_of" (He.fAd K ("left_of", none)) (fds 5) ps5
  F6 : FunD K "net" "net" (defArgs st6) (defBody st6) (defScope st6) [] [("struck", .ref (kwdAt ("net", none) "struck" K))] (He.fAd K ("net", none)) (fds 6)
  a6 : FnAtK K mg "net" (He.fAd K ("net", none)) (fds 6) ps6 ["struck"] 1 [.ref (kwdAt ("net", none) "struck" K)]
  m6 : EmpT K (kwdAt ("net", none) "struck" K)
  F7 : FunD K "_law_begun" "_law_begun" (defArgs st7) (defBody st7) (defScope st7) [] [] (He.fAd K ("_law_begun", none)) (fds 7)
  a7 : FnAt K mg "_law_begun" (He.fAd K ("_law_begun", none)) (fds 7) ps7
  F8 : FunD K "_law_next" "_law_next" (defArgs st8) (defBody st8) (defScope st8) [] [] (He.fAd K ("_law_next", none)) (fds 8)
  a8 : FnAt K mg "_law_next" (He.fAd K ("_law_next", none)) (fds 8) ps8
  F9 : FunD K "_law_pick" "_law_pick" (defArgs st9) (defBody st9) (defScope st9) [] [] (He.fAd K ("_law_pick", none)) (fds 9)
  a9 : FnAt K mg "_law_pick" (He.fAd K ("_law_pick", none)) (fds 9) ps9
  F10 : FunD K "_law_spots" "_law_spots" (defArgs st10) (defBody st10) (defScope st10) [] [] (He.fAd K ("_law_spots", none)) (fds 10)
  a10 : FnAt K mg "_law_spots" (He.fAd K ("_law_spots", none)) (fds 10) ps10
  F11 : FunD K "_law_pairs" "_law_pairs" (defArgs st11) (defBody st11) (defScope st11) [] [] (He.fAd K ("_law_pairs", none)) (fds 11)
  a11 : FnAt K mg "_law_pairs" (He.fAd K ("_law_pairs", none)) (fds 11) ps11
  F12 : FunD K "_law_link" "_law_link" (defArgs st12) (defBody st12) (defScope st12) [] [] (He.fAd K ("_law_link", none)) (fds 12)
  a12 : FnAt K mg "_law_link" (He.fAd K ("_law_link", none)) (fds 12) ps12
  F13 : FunD K "_law_links" "_law_links" (defArgs st13) (defBody st13) (defScope st13) [] [] (He.fAd K ("_law_links", none)) (fds 13)
  a13 : FnAt K mg "_law_links" (He.fAd K ("_law_links", none)) (fds 13) ps13
  F14 : FunD K "_law_many" "_law_many" (defArgs st14) (defBody st14) (defScope st14) [] [] (He.fAd K ("_law_many", none)) (fds 14)
  a14 : FnAt K mg "_law_many" (He.fAd K ("_law_many", none)) (fds 14) ps14
  F15 : FunD K "_law_gone" "_law_gone" (defArgs st15) (defBody st15) (defScope st15) [] [] (He.fAd K ("_law_gone", none)) (fds 15)
  a15 : FnAt K mg "_law_gone" (He.fAd K ("_law_gone", none)) (fds 15) ps15
  F16 : FunD K "_law_near" "_law_near" (defArgs st16) (defBody st16) (defScope st16) [] [] (He.fAd K ("_law_near", none)) (fds 16)
  a16 : FnAt K mg "_law_near" (He.fAd K ("_law_near", none)) (fds 16) ps16
  F17 : FunD K "_law_by_groups" "_law_by_groups" (defArgs st17) (defBody st17) (defScope st17) [] [] (He.fAd K ("_law_by_groups", none)) (fds 17)
  a17 : FnAt K mg "_law_by_groups" (He.fAd K ("_law_by_groups", none)) (fds 17) ps17
  F18 : FunD K "law" "law" (defArgs st18) (defBody st18) (defScope st18) [] [] (He.fAd K ("law", none)) (fds 18)
  a18 : FnAt K mg "law" (He.fAd K ("law", none)) (fds 18) ps18
  h_all : mg "all" = none
  h_bool : mg "bool" = none
  h_enumerate : mg "enumerate" = none
  h_int : mg "int" = none
  h_isinstance : mg "isinstance" = none
  h_len : mg "len" = none
  h_list : mg "list" = none
  h_max : mg "max" = none
  h_range : mg "range" = none
  h_set : mg "set" = none
  h_sorted : mg "sorted" = none
  h_str : mg "str" = none
  h_tuple : mg "tuple" = none
  h_zip : mg "zip" = none
  g_MOST_COST : ∃ t, mg "MOST_COST" = some (.int 1000000 t)
  g_LONGEST_PLACE : ∃ t, mg "LONGEST_PLACE" = some (.int 6 t)
section
variable {w : World} {K : Fg} {mg : Str → Option Value} {base : Heap} {fds : Nat → FuncData}
abbrev Ok (w : World) (K : Fg) (mg : Str → Option Value) (base : Heap) (fds : Nat → FuncData) (k i : Nat) : Prop := Okd PR w (TT K) mg base ats fds pss pds k i
theorem d0 (g : G K mg fds) (k : Nat) (ih : ∀ j, j < 19 → Ok w K mg base fds k j) : Ok w K mg base fds (k + 1) 0 := by
  refine fn_ok (T := TT K) (N := N0) (ps := ps0) (prot := []) (sem := b0 (sem pds k)) g.F0 sc0 (by decide) fun cdv A outer s H E hr => ?_
  have C := Cxb.ofDef (P := PR) (w := w) (T := TT K) (mg := mg) (base := base) (outer := outer) (H := H) (E := E) (l := [0, 1]) (m := [0, 1]) sc0 (by decide +kernel) (by decide +kernel) hr
  exact (s_cons (s_ret (e_and C.hK (e_isi (x := "") C.hK (v_ C (i := 0) rfl rfl) (e_tyName (x := "int") (t := "int") rfl g.h_int boot_int (by decide) (by decide)) rfl g.h_isinstance rfl rfl rfl) (e_and C.hK (e_not C.hK (e_isi (x := "") C.hK (v_ C (i := 0) rfl rfl) (e_tyName (x := "bool") (t := "bool") rfl g.h_bool boot_bool (by decide) (by decide)) rfl g.h_isinstance rfl rfl rfl)) (e_one (e_chain (k_le C) (k_le C) e_int (v_ C (i := 0) rfl rfl) (v_ C (i := 1) rfl rfl) rfl)))))
 s_nil)
theorem d1 (g : G K mg fds) (k : Nat) (ih : ∀ j, j < 19 → Ok w K mg base fds k j) : Ok w K mg base fds (k + 1) 1 := by
  refine fn_ok (T := TT K) (N := N1) (ps := ps1) (prot := []) (sem := b1 (sem pds k)) g.F1 sc1 (by decide) fun cdv A outer s H E hr => ?_
  have C := Cxb.ofDef (P := PR) (w := w) (T := TT K) (mg := mg) (base := base) (outer := outer) (H := H) (E := E) (l := [0]) (m := [0]) sc1 (by decide +kernel) (by decide +kernel) hr
  exact (s_cons (s_if (PW.pt (w_or (t_not (t_tru C.hK (e_isi (x := "") C.hK (v_ C (i := 0) rfl rfl) (e_tyName (x := "str") (t := "str") rfl g.h_str boot_str (by decide) (by decide)) rfl g.h_isinstance rfl rfl rfl) (fun _ => rfl))) (w_one (t_not (t_chain (k_lt C) (k_le C) e_int (e_callB (x := "len") (j_len C) rfl g.h_len boot_len (a_cons (v_ C (i := 0) rfl rfl) a_nil rfl) (by decide) (by decide) rfl rfl) (gi_ g.g_LONGEST_PLACE rfl (by decide)) rfl)) .Or))) (s_cons (s_ret e_bl)
 s_nil) s_nil)
 (s_cons (s_ret (e_callB (x := "all") (j_all C) rfl g.h_all boot_all (a_cons (lc_ C [1] [1] [("sign", 1)] (by kernel_rfl) (by kernel_rfl) (by kernel_rfl) rfl (i_seq C.hK (v_ C (i := 0) rfl rfl)) (fun _ _ _ _ _ C1 => (nm_ C1 (i := 1) rfl rfl)) (fun _ _ _ _ _ C1 => c_nil) (fun _ _ _ _ _ C1 => (e_chain (k_le C1) (k_le C1) e_str (v_ C1 (i := 1) rfl rfl) e_str rfl)) (fun _ => rfl)) a_nil rfl) (by decide) (by decide) rfl rfl))
 s_nil))
theorem d2 (g : G K mg fds) (k : Nat) (ih : ∀ j, j < 19 → Ok w K mg base fds k j) : Ok w K mg base fds (k + 1) 2 := by
  refine fn_ok (T := TT K) (N := N2) (ps := ps2) (prot := []) (sem := b2 (sem pds k)) g.F2 sc2 (by decide) fun cdv A outer s H E hr => ?_
  have C := Cxb.ofDef (P := PR) (w := w) (T := TT K) (mg := mg) (base := base) (outer := outer) (H := H) (E := E) (l := [0, 1, 2, 3, 4]) (m := [0, 1, 2, 3, 4]) sc2 (by decide +kernel) (by decide +kernel) hr
  exact (s_cons (s_if (PW.pt (w_or (t_not (t_tru C.hK (e_isi (x := "") C.hK (v_ C (i := 0) rfl rfl) (e_tyName (x := "tuple") (t := "tuple") rfl g.h_tuple boot_tuple (by decide) (by decide)) rfl g.h_isinstance rfl rfl rfl) (fun _ => rfl))) (w_one (t_cmp (k_ne C) (e_callB (x := "len") (j_len C) rfl g.h_len boot_len (a_cons (v_ C (i := 0) rfl rfl) a_nil rfl) (by decide) (by decide) rfl rfl) e_int rfl) .Or))) (s_cons (s_ret e_bl)
 s_nil) s_nil)
 (s_cons (asg_ rfl (v_ C (i := 0) rfl rfl) (g_tup (n := 4) C.hK C.calm (gs_cons (nm_ C (i := 1) rfl rfl) (gs_cons (nm_ C (i := 2) rfl rfl) (gs_cons (nm_ C (i := 3) rfl rfl) (gs_cons (nm_ C (i := 4) rfl rfl) gs_nil rfl) rfl) rfl) rfl) rfl rfl) rfl rfl rfl)
 (s_cons (s_if (PW.pt (w_or (t_not (t_tru C.hK (call_ (x := "is_number") C (ih 0 (by decide)) g.a0 sem_len (v_val (v_ C (i := 1) rfl rfl) (v_val (gi_ g.g_MOST_COST rfl (by decide)) v_nil rfl) rfl) rfl (by decide) rfl rfl) (fun _ => rfl))) (w_one (t_not (t_tru C.hK (call_ (x := "is_number") C (ih 0 (by decide)) g.a0 sem_len (v_val (v_ C (i := 2) rfl rfl) (v_val (gi_ g.g_MOST_COST rfl (by decide)) v_nil rfl) rfl) rfl (by decide) rfl rfl) (fun _ => rfl))) .Or))) (s_cons (s_ret e_bl)
 s_nil) s_nil)
 (s_cons (s_ret (e_and C.hK (call_ (x := "is_place") C (ih 1 (by decide)) g.a1 sem_len (v_val (v_ C (i := 3) rfl rfl) v_nil rfl) rfl (by decide) rfl rfl) (e_and C.hK (call_ (x := "is_place") C (ih 1 (by decide)) g.a1 sem_len (v_val (v_ C (i := 4) rfl rfl) v_nil rfl) rfl (by decide) rfl rfl) (e_one (e_cmp (k_lt C) (v_ C (i := 3) rfl rfl) (v_ C (i := 4) rfl rfl) rfl)))))
 s_nil))))
theorem d3 (g : G K mg fds) (k : Nat) (ih : ∀ j, j < 19 → Ok w K mg base fds k j) : Ok w K mg base fds (k + 1) 3 := by
  refine fn_ok (T := TT K) (N := N3) (ps := ps3) (prot := []) (sem := b3 (sem pds k)) g.F3 sc3 (by decide) fun cdv A outer s H E hr => ?_
  have C := Cxb.ofDef (P := PR) (w := w) (T := TT K) (mg := mg) (base := base) (outer := outer) (H := H) (E := E) (l := [0, 1, 2]) (m := [0, 1, 2]) sc3 (by decide +kernel) (by decide +kernel) hr
  exact (s_cons (s_if (t_not (t_tru C.hK (e_isiT C.hK (v_ C (i := 0) rfl rfl) (.cons (e_tyName (x := "list") (t := "list") rfl g.h_list boot_list (by decide) (by decide)) rfl (.cons (e_tyName (x := "tuple") (t := "tuple") rfl g.h_tuple boot_tuple (by decide) (by decide)) rfl .nil)) (by decide) rfl g.h_isinstance rfl rfl rfl) (fun _ => rfl))) (s_cons s_bad
 s_nil) s_nil)
 (s_cons (for_ C (passes_of rfl) rfl (i_enum C.hK rfl g.h_enumerate (a_cons (v_ C (i := 0) rfl rfl) a_nil rfl) rfl) (g_tup (n := 2) C.hK C.calm (gs_cons (nm_ C (i := 1) rfl rfl) (gs_cons (nm_ C (i := 2) rfl rfl) gs_nil rfl) rfl) rfl rfl) (s_cons (s_if (t_not (t_tru C.hK (call_ (x := "is_link") C (ih 2 (by decide)) g.a2 sem_len (v_val (v_ C (i := 2) rfl rfl) v_nil rfl) rfl (by decide) rfl rfl) (fun _ => rfl))) (s_cons s_bad
 s_nil) s_nil)
 s_nil) (fun _ => rfl))
 (s_cons (s_ret (ss_ C g.h_sorted g.h_set rfl rfl (a_cons (v_ C (i := 0) rfl rfl) a_nil rfl) rfl rfl))
 s_nil)))
theorem d4 (g : G K mg fds) (k : Nat) (ih : ∀ j, j < 19 → Ok w K mg base fds k j) : Ok w K mg base fds (k + 1) 4 := by
  refine fn_ok (T := TT K) (N := N4) (ps := ps4) (prot := []) (sem := b4 (sem pds k)) g.F4 sc4 (by decide) fun cdv A outer s H E hr => ?_
  have C := Cxb.ofDef (P := PR) (w := w) (T := TT K) (mg := mg) (base := base) (outer := outer) (H := H) (E := E) (l := [0, 1, 2, 3, 4, 5, 6, 7, 8, 9]) (m := [0, 1, 2, 3, 4, 5, 6, 7, 8, 9]) sc4 (by decide +kernel) (by decide +kernel) hr
  exact (s_cons (par_ C (i := 1) (j := 2) rfl rfl rfl rfl (by decide) rfl rfl e_dict0 (e_lst a_nil) rfl rfl (by kernel_rfl) rfl)
 (s_cons (for_ C (passes_of rfl) rfl (i_seq C.hK (v_ C (i := 0) rfl rfl)) (nm_ C (i := 3) rfl rfl) (s_cons (asg_ rfl (v_ C (i := 3) rfl rfl) (g_tup (n := 4) C.hK C.calm (gs_cons (nm_ C (i := 4) rfl rfl) (gs_cons (nm_ C (i := 5) rfl rfl) (gs_cons (nm_ C (i := 6) rfl rfl) (gs_cons (nm_ C (i := 7) rfl rfl) gs_nil rfl) rfl) rfl) rfl) rfl rfl) rfl rfl rfl)
 (s_cons (parC_ C (i := 8) (j := 9) rfl rfl rfl rfl rfl rfl (e_lend (i := 1) (get2_ C (v_ C (i := 1) rfl rfl) (v_ C (i := 6) rfl rfl) (e_tup (a_cons (v_ C (i := 6) rfl rfl) a_nil rfl)) ⟨rfl, rfl, rfl, rfl⟩)) (e_lend (i := 1) (get2_ C (v_ C (i := 1) rfl rfl) (v_ C (i := 7) rfl rfl) (e_tup (a_cons (v_ C (i := 7) rfl rfl) a_nil rfl)) ⟨rfl, rfl, rfl, rfl⟩)) rfl rfl (by kernel_rfl) rfl)
 (s_cons (s_if (t_cmp (k_notIn C) (v_ C (i := 7) rfl rfl) (v_ C (i := 8) rfl rfl) rfl) (s_cons (app_ C (i := 2) rfl rfl (v_ C (i := 3) rfl rfl) rfl rfl rfl rfl rfl)
 (s_cons (upd_ C (i := 1) rfl rfl (dc_ C [8, 9, 10] [10] [("place", 10)] (by kernel_rfl) (by kernel_rfl) (by kernel_rfl) rfl (i_seq C.hK (e_op (k_add C) (v_ C (i := 8) rfl rfl) (v_ C (i := 9) rfl rfl))) (fun _ _ _ _ _ C1 => (nm_ C1 (i := 10) rfl rfl)) (fun _ _ _ _ _ C1 => c_nil) (fun _ _ _ _ _ C1 => (v_ C1 (i := 10) rfl rfl)) (fun _ _ _ _ _ C1 => (e_op (k_add C1) (v_ C1 (i := 8) rfl rfl) (v_ C1 (i := 9) rfl rfl))) (fun _ => rfl)) rfl rfl rfl rfl rfl)
 s_nil)) s_nil)
 s_nil))) (fun _ => rfl))
 (s_cons (s_ret (mv_ C (i := 2) rfl rfl))
 s_nil)))
theorem d5 (g : G K mg fds) (k : Nat) (ih : ∀ j, j < 19 → Ok w K mg base fds k j) : Ok w K mg base fds (k + 1) 5 := by
  refine fn_ok (T := TT K) (N := N5) (ps := ps5) (prot := []) (sem := b5 (sem pds k)) g.F5 sc5 (by decide) fun cdv A outer s H E hr => ?_
  have C := Cxb.ofDef (P := PR) (w := w) (T := TT K) (mg := mg) (base := base) (outer := outer) (H := H) (E := E) (l := [0, 1, 2]) (m := [0, 1, 2]) sc5 (by decide +kernel) (by decide +kernel) hr
  exact (s_cons (set_ C false (i := 2) rfl rfl rfl (dc_ C [3] [3] [("link", 3)] (by kernel_rfl) (by kernel_rfl) (by kernel_rfl) rfl (i_seq C.hK (call_ (x := "need_links") C (ih 3 (by decide)) g.a3 sem_len (v_val (v_ C (i := 1) rfl rfl) v_nil rfl) rfl (by decide) rfl rfl)) (fun _ _ _ _ _ C2 => (nm_ C2 (i := 3) rfl rfl)) (fun _ _ _ _ _ C2 => c_nil) (fun _ _ _ _ _ C2 => (v_ C2 (i := 3) rfl rfl)) (fun _ _ _ _ _ C2 => e_bl) (fun _ => rfl)) rfl)
 (s_cons (s_ret (lc_ C [2, 3] [3] [("link", 3)] (by kernel_rfl) (by kernel_rfl) (by kernel_rfl) rfl (i_seq C.hK (v_ C (i := 0) rfl rfl)) (fun _ _ _ _ _ C1 => (nm_ C1 (i := 3) rfl rfl)) (fun _ _ _ _ _ C1 => (c_one (t_cmp (k_notIn C1) (v_ C1 (i := 3) rfl rfl) (v_ C1 (i := 2) rfl rfl) rfl))) (fun _ _ _ _ _ C1 => (v_ C1 (i := 3) rfl rfl)) (fun _ => rfl)))
 s_nil))
theorem d6 (g : G K mg fds) (k : Nat) (ih : ∀ j, j < 19 → Ok w K mg base fds k j) : Ok w K mg base fds (k + 1) 6 := by
  refine fn_ok (T := TT K) (N := N6) (ps := ps6) (prot := []) (sem := b6 (sem pds k)) g.F6 sc6 (by decide) fun cdv A outer s H E hr => ?_
  have C := Cxb.ofDef (P := PR) (w := w) (T := TT K) (mg := mg) (base := base) (outer := outer) (H := H) (E := E) (l := [0, 1]) (m := [0, 1]) sc6 (by decide +kernel) (by decide +kernel) hr
  exact (s_cons (s_ret (call_ (x := "net_of") C (ih 4 (by decide)) g.a4 sem_len (v_val (call_ (x := "left_of") C (ih 5 (by decide)) g.a5 sem_len (v_val (call_ (x := "need_links") C (ih 3 (by decide)) g.a3 sem_len (v_val (v_ C (i := 0) rfl rfl) v_nil rfl) rfl (by decide) rfl rfl) (v_val (v_ C (i := 1) rfl rfl) v_nil rfl) rfl) rfl (by decide) rfl rfl) v_nil rfl) rfl (by decide) rfl rfl))
 s_nil)
theorem d7 (g : G K mg fds) (k : Nat) (ih : ∀ j, j < 19 → Ok w K mg base fds k j) : Ok w K mg base fds (k + 1) 7 := by
  refine fn_ok (T := TT K) (N := N7) (ps := ps7) (prot := []) (sem := b7 (sem pds k)) g.F7 sc7 (by decide) fun cdv A outer s H E hr => ?_
  have C := Cxb.ofDef (P := PR) (w := w) (T := TT K) (mg := mg) (base := base) (outer := outer) (H := H) (E := E) (l := [0, 1]) (m := [0, 1]) sc7 (by decide +kernel) (by decide +kernel) hr
  exact (s_cons (s_ret (e_lst (a_cons (e_callB (x := "max") (j_max C) rfl g.h_max boot_max (a_cons e_int (a_cons (e_op (k_sub C) (v_ C (i := 0) rfl rfl) (e_op (k_pow C) e_int e_int)) a_nil rfl) rfl) (by decide) (by decide) rfl rfl) (a_cons (e_op (k_add C) (v_ C (i := 0) rfl rfl) (e_op (k_mul C) e_int (v_ C (i := 1) rfl rfl))) (a_cons e_int a_nil rfl) rfl) rfl)))
 s_nil)
theorem d8 (g : G K mg fds) (k : Nat) (ih : ∀ j, j < 19 → Ok w K mg base fds k j) : Ok w K mg base fds (k + 1) 8 := by
  refine fn_ok (T := TT K) (N := N8) (ps := ps8) (prot := [0]) (sem := b8 (sem pds k)) g.F8 sc8 (by decide) fun cdv A outer s H E hr => ?_
  have C := Cxb.ofDef (P := PR) (w := w) (T := TT K) (mg := mg) (base := base) (outer := outer) (H := H) (E := E) (l := [0, 1, 2]) (m := [0, 1, 2]) sc8 (by decide +kernel) (by decide +kernel) hr
  exact (s_cons (s_if (t_cmp (k_gt C) (e_lend (i := 0) (e_ix C.hK (v_ C (i := 0) rfl rfl) e_int (fun _ _ => rfl))) e_int rfl) (s_cons (set_ C false (i := 2) rfl rfl rfl (e_op (k_mod C) (e_lend (i := 0) (e_ix C.hK (v_ C (i := 0) rfl rfl) e_int (fun _ _ => rfl))) (v_ C (i := 1) rfl rfl)) rfl)
 (s_cons (setL_ C (i := 0) rfl rfl (e_op (k_fdiv C) (e_lend (i := 0) (e_ix C.hK (v_ C (i := 0) rfl rfl) e_int (fun _ _ => rfl))) (v_ C (i := 1) rfl rfl)) e_int rfl rfl (fun _ => rfl) rfl)
 (s_cons (s_ret (v_ C (i := 2) rfl rfl))
 s_nil))) s_nil)
 (s_cons (setL_ C (i := 0) rfl rfl (e_op (k_add C) (e_lend (i := 0) (e_ix C.hK (v_ C (i := 0) rfl rfl) e_int (fun _ _ => rfl))) e_int) e_int rfl rfl (fun _ => rfl) rfl)
 (s_cons (set_ C false (i := 2) rfl rfl rfl (e_op (k_add C) (e_op (k_mod C) (e_lend (i := 0) (e_ix C.hK (v_ C (i := 0) rfl rfl) e_int (fun _ _ => rfl))) e_int) (e_op (k_mul C) e_int (e_lend (i := 0) (e_ix C.hK (v_ C (i := 0) rfl rfl) e_int (fun _ _ => rfl))))) rfl)
 (s_cons (set_ C false (i := 2) rfl rfl rfl (e_op (k_mul C) (v_ C (i := 2) rfl rfl) (e_op (k_add C) (e_op (k_add C) (e_op (k_mod C) (e_lend (i := 0) (e_ix C.hK (v_ C (i := 0) rfl rfl) e_int (fun _ _ => rfl))) e_int) (e_op (k_mul C) (e_op (k_mul C) e_int (e_lend (i := 0) (e_ix C.hK (v_ C (i := 0) rfl rfl) e_int (fun _ _ => rfl)))) (e_lend (i := 0) (e_ix C.hK (v_ C (i := 0) rfl rfl) e_int (fun _ _ => rfl))))) e_int)) rfl)
 (s_cons (s_ret (e_op (k_mod C) (e_op (k_fdiv C) (e_op (k_mod C) (e_op (k_pow C) (v_ C (i := 2) rfl rfl) e_int) e_int) e_int) (v_ C (i := 1) rfl rfl)))
 s_nil)))))
theorem d9 (g : G K mg fds) (k : Nat) (ih : ∀ j, j < 19 → Ok w K mg base fds k j) : Ok w K mg base fds (k + 1) 9 := by
  refine fn_ok (T := TT K) (N := N9) (ps := ps9) (prot := [0]) (sem := b9 (sem pds k)) g.F9 sc9 (by decide) fun cdv A outer s H E hr => ?_
  have C := Cxb.ofDef (P := PR) (w := w) (T := TT K) (mg := mg) (base := base) (outer := outer) (H := H) (E := E) (l := [0, 1]) (m := [0, 1]) sc9 (by decide +kernel) (by decide +kernel) hr
  exact (s_cons (s_ret (e_ix C.hK (v_ C (i := 1) rfl rfl) (call_ (x := "_law_next") C (ih 8 (by decide)) g.a8 sem_len (vio_ C (i := 0) rfl rfl (v_val (e_callB (x := "len") (j_len C) rfl g.h_len boot_len (a_cons (v_ C (i := 1) rfl rfl) a_nil rfl) (by decide) (by decide) rfl rfl) v_nil rfl) rfl) rfl (by decide) rfl rfl) (fun _ _ => rfl)))
 s_nil)
theorem d10 (g : G K mg fds) (k : Nat) (ih : ∀ j, j < 19 → Ok w K mg base fds k j) : Ok w K mg base fds (k + 1) 10 := by
  refine fn_ok (T := TT K) (N := N10) (ps := ps10) (prot := [0]) (sem := b10 (sem pds k)) g.F10 sc10 (by decide) fun cdv A outer s H E hr => ?_
  have C := Cxb.ofDef (P := PR) (w := w) (T := TT K) (mg := mg) (base := base) (outer := outer) (H := H) (E := E) (l := [0, 1, 2, 3, 4, 5]) (m := [0, 1, 2, 3, 4, 5]) sc10 (by decide +kernel) (by decide +kernel) hr
  exact (s_cons (parC_ C (i := 2) (j := 3) rfl rfl rfl rfl rfl rfl (e_lst (a_cons e_str (a_cons e_str (a_cons e_str (a_cons e_str (a_cons e_str (a_cons e_str (a_cons e_str (a_cons e_str (a_cons e_str (a_cons e_str (a_cons e_str (a_cons e_str a_nil rfl) rfl) rfl) rfl) rfl) rfl) rfl) rfl) rfl) rfl) rfl) rfl)) (e_lst a_nil) rfl rfl (by kernel_rfl) rfl)
 (s_cons (for_ C (passes_of rfl) rfl (i_rng1 rfl g.h_range (a_cons (v_ C (i := 1) rfl rfl) a_nil rfl) rfl) (nm_ C (i := 4) rfl rfl) (s_cons (set_ C false (i := 5) rfl rfl rfl (call_ (x := "_law_pick") C (ih 9 (by decide)) g.a9 sem_len (vio_ C (i := 0) rfl rfl (v_val (v_ C (i := 2) rfl rfl) v_nil rfl) rfl) rfl (by decide) rfl rfl) rfl)
 (s_cons (s_if (t_cmp (k_gt C) (call_ (x := "_law_next") C (ih 8 (by decide)) g.a8 sem_len (vio_ C (i := 0) rfl rfl (v_val e_int v_nil rfl) rfl) rfl (by decide) rfl rfl) e_int rfl) (s_cons (set_ C false (i := 5) rfl rfl rfl (e_join C.hK e_str (lc_ C [0, 6] [6] [("sign", 6)] (by kernel_rfl) (by kernel_rfl) (by kernel_rfl) rfl (i_rng1 rfl g.h_range (a_cons (e_op (k_add C) e_int (call_ (x := "_law_next") C (ih 8 (by decide)) g.a8 sem_len (vio_ C (i := 0) rfl rfl (v_val e_int v_nil rfl) rfl) rfl (by decide) rfl rfl)) a_nil rfl) rfl) (fun _ _ _ _ _ C2 => (nm_ C2 (i := 6) rfl rfl)) (fun _ _ _ _ _ C2 => c_nil) (fun _ _ _ _ _ C2 => (call_ (x := "_law_pick") C2 (ih 9 (by decide)) g.a9 sem_len (vio_ C2 (i := 0) rfl rfl (v_val e_str v_nil rfl) rfl) rfl (by decide) rfl rfl)) (fun _ => rfl)) rfl rfl rfl) rfl)
 s_nil) s_nil)
 (s_cons (s_if (t_lend (i := 3) (t_cmp (k_in C) (v_ C (i := 5) rfl rfl) (v_ C (i := 3) rfl rfl) rfl)) (s_cons (set_ C false (i := 5) rfl rfl rfl (e_ix C.hK (lc_ C [3, 5, 6] [6] [("sign", 6)] (by kernel_rfl) (by kernel_rfl) (by kernel_rfl) rfl (i_seq C.hK e_str) (fun _ _ _ _ _ C1 => (nm_ C1 (i := 6) rfl rfl)) (fun _ _ _ _ _ C1 => (c_one (t_lend (i := 3) (t_cmp (k_notIn C1) (e_op (k_add C1) (e_sl C1.hK (v_ C1 (i := 5) rfl rfl) p_none (p_some e_int)) (v_ C1 (i := 6) rfl rfl)) (v_ C1 (i := 3) rfl rfl) rfl)))) (fun _ _ _ _ _ C1 => (e_op (k_add C1) (e_sl C1.hK (v_ C1 (i := 5) rfl rfl) p_none (p_some e_int)) (v_ C1 (i := 6) rfl rfl))) (fun _ => rfl)) e_int (fun _ _ => rfl)) rfl)
 s_nil) s_nil)
 (s_cons (app_ C (i := 3) rfl rfl (v_ C (i := 5) rfl rfl) rfl rfl rfl rfl rfl)
 s_nil)))) (fun _ => rfl))
 (s_cons (s_ret (e_lend (i := 3) (e_callB (x := "sorted") (j_sorted C) rfl g.h_sorted boot_sorted (a_cons (v_ C (i := 3) rfl rfl) a_nil rfl) (by decide) (by decide) rfl rfl)))
 s_nil)))
theorem d11 (g : G K mg fds) (k : Nat) (ih : ∀ j, j < 19 → Ok w K mg base fds k j) : Ok w K mg base fds (k + 1) 11 := by
  refine fn_ok (T := TT K) (N := N11) (ps := ps11) (prot := [0]) (sem := b11 (sem pds k)) g.F11 sc11 (by decide) fun cdv A outer s H E hr => ?_
  have C := Cxb.ofDef (P := PR) (w := w) (T := TT K) (mg := mg) (base := base) (outer := outer) (H := H) (E := E) (l := [0, 1, 2, 3, 4, 5, 6]) (m := [0, 1, 2, 3, 4, 5, 6]) sc11 (by decide +kernel) (by decide +kernel) hr
  exact (s_cons (parC_ C (i := 2) (j := 3) rfl rfl rfl rfl rfl rfl (e_lst a_nil) (call_ (x := "_law_next") C (ih 8 (by decide)) g.a8 sem_len (vio_ C (i := 0) rfl rfl (v_val e_int v_nil rfl) rfl) rfl (by decide) rfl rfl) rfl rfl (by kernel_rfl) rfl)
 (s_cons (for_ C (passes_of rfl) rfl (i_enum C.hK rfl g.h_enumerate (a_cons (v_ C (i := 1) rfl rfl) a_nil rfl) rfl) (g_tup (n := 2) C.hK C.calm (gs_cons (nm_ C (i := 4) rfl rfl) (gs_cons (nm_ C (i := 5) rfl rfl) gs_nil rfl) rfl) rfl rfl) (s_cons (set_ C false (i := 2) rfl rfl rfl (e_op (k_add C) (v_ C (i := 2) rfl rfl) (lc_ C [5, 7] [7] [("other", 7)] (by kernel_rfl) (by kernel_rfl) (by kernel_rfl) rfl (i_seq C.hK (e_sl C.hK (v_ C (i := 1) rfl rfl) (p_some (e_op (k_add C) (v_ C (i := 4) rfl rfl) e_int)) p_none)) (fun _ _ _ _ _ C3 => (nm_ C3 (i := 7) rfl rfl)) (fun _ _ _ _ _ C3 => c_nil) (fun _ _ _ _ _ C3 => (e_tup (a_cons (v_ C3 (i := 5) rfl rfl) (a_cons (v_ C3 (i := 7) rfl rfl) a_nil rfl) rfl))) (fun _ => rfl))) rfl)
 s_nil) (fun _ => rfl))
 (s_cons (s_if (PW.pt (w_or (t_cmp (k_eq C) (v_ C (i := 3) rfl rfl) e_int rfl) (w_one (t_cmp (k_eq C) (e_callB (x := "len") (j_len C) rfl g.h_len boot_len (a_cons (v_ C (i := 1) rfl rfl) a_nil rfl) (by decide) (by decide) rfl rfl) e_int rfl) .Or))) (s_cons (s_ret (v_ C (i := 2) rfl rfl))
 s_nil) s_nil)
 (s_cons (s_if (t_cmp (k_eq C) (v_ C (i := 3) rfl rfl) e_int rfl) (s_cons (s_ret (lc_ C [0, 2, 8] [8] [("turn", 8)] (by kernel_rfl) (by kernel_rfl) (by kernel_rfl) rfl (i_rng1 rfl g.h_range (a_cons e_int a_nil rfl) rfl) (fun _ _ _ _ _ C2 => (nm_ C2 (i := 8) rfl rfl)) (fun _ _ _ _ _ C2 => c_nil) (fun _ _ _ _ _ C2 => (call_ (x := "_law_pick") C2 (ih 9 (by decide)) g.a9 sem_len (vio_ C2 (i := 0) rfl rfl (v_val (v_ C2 (i := 2) rfl rfl) v_nil rfl) rfl) rfl (by decide) rfl rfl)) (fun _ => rfl)))
 s_nil) s_nil)
 (s_cons (s_if (t_cmp (k_eq C) (v_ C (i := 3) rfl rfl) e_int rfl) (s_cons (set_ C false (i := 6) rfl rfl rfl (e_lst (a_cons (call_ (x := "_law_pick") C (ih 9 (by decide)) g.a9 sem_len (vio_ C (i := 0) rfl rfl (v_val (v_ C (i := 1) rfl rfl) v_nil rfl) rfl) rfl (by decide) rfl rfl) (a_cons (call_ (x := "_law_pick") C (ih 9 (by decide)) g.a9 sem_len (vio_ C (i := 0) rfl rfl (v_val (v_ C (i := 1) rfl rfl) v_nil rfl) rfl) rfl (by decide) rfl rfl) a_nil rfl) rfl)) rfl)
 (s_cons (s_ret (lc_ C [6, 9] [9] [("pair", 9)] (by kernel_rfl) (by kernel_rfl) (by kernel_rfl) rfl (i_seq C.hK (v_ C (i := 2) rfl rfl)) (fun _ _ _ _ _ C1 => (nm_ C1 (i := 9) rfl rfl)) (fun _ _ _ _ _ C1 => (c_one (PW.pt (w_or (t_cmp (k_in C1) (e_ix C1.hK (v_ C1 (i := 9) rfl rfl) e_int (fun _ _ => rfl)) (v_ C1 (i := 6) rfl rfl) rfl) (w_one (t_cmp (k_in C1) (e_ix C1.hK (v_ C1 (i := 9) rfl rfl) e_int (fun _ _ => rfl)) (v_ C1 (i := 6) rfl rfl) rfl) .Or))))) (fun _ _ _ _ _ C1 => (v_ C1 (i := 9) rfl rfl)) (fun _ => rfl)))
 s_nil)) s_nil)
 (s_cons (s_ret (lz_ C g.h_list g.h_zip rfl rfl (a_cons (v_ C (i := 1) rfl rfl) (a_cons (e_sl C.hK (v_ C (i := 1) rfl rfl) (p_some e_int) p_none) a_nil rfl) rfl) rfl rfl rfl))
 s_nil))))))
theorem d12 (g : G K mg fds) (k : Nat) (ih : ∀ j, j < 19 → Ok w K mg base fds k j) : Ok w K mg base fds (k + 1) 12 := by
  refine fn_ok (T := TT K) (N := N12) (ps := ps12) (prot := [0]) (sem := b12 (sem pds k)) g.F12 sc12 (by decide) fun cdv A outer s H E hr => ?_
  have C := Cxb.ofDef (P := PR) (w := w) (T := TT K) (mg := mg) (base := base) (outer := outer) (H := H) (E := E) (l := [0, 1, 2, 3, 4]) (m := [0, 1, 2, 3, 4]) sc12 (by decide +kernel) (by decide +kernel) hr
  exact (s_cons (asg_ rfl (call_ (x := "_law_pick") C (ih 9 (by decide)) g.a9 sem_len (vio_ C (i := 0) rfl rfl (v_val (v_ C (i := 1) rfl rfl) v_nil rfl) rfl) rfl (by decide) rfl rfl) (g_tup (n := 2) C.hK C.calm (gs_cons (nm_ C (i := 2) rfl rfl) (gs_cons (nm_ C (i := 3) rfl rfl) gs_nil rfl) rfl) rfl rfl) rfl rfl rfl)
 (s_cons (set_ C false (i := 4) rfl rfl rfl (call_ (x := "_law_pick") C (ih 9 (by decide)) g.a9 sem_len (vio_ C (i := 0) rfl rfl (v_val (e_lst (a_cons e_int (a_cons e_int (a_cons e_int (a_cons e_int (a_cons (e_op (k_pow C) e_int e_int) (a_cons (call_ (x := "_law_next") C (ih 8 (by decide)) g.a8 sem_len (vio_ C (i := 0) rfl rfl (v_val (e_op (k_add C) (e_op (k_pow C) e_int e_int) e_int) v_nil rfl) rfl) rfl (by decide) rfl rfl) a_nil rfl) rfl) rfl) rfl) rfl) rfl)) v_nil rfl) rfl) rfl (by decide) rfl rfl) rfl)
 (s_cons (s_ret (e_tup (a_cons (v_ C (i := 4) rfl rfl) (a_cons (call_ (x := "_law_pick") C (ih 9 (by decide)) g.a9 sem_len (vio_ C (i := 0) rfl rfl (v_val (e_lst (a_cons e_int (a_cons e_int (a_cons e_int (a_cons (call_ (x := "_law_next") C (ih 8 (by decide)) g.a8 sem_len (vio_ C (i := 0) rfl rfl (v_val (e_op (k_add C) (e_op (k_pow C) e_int e_int) e_int) v_nil rfl) rfl) rfl (by decide) rfl rfl) a_nil rfl) rfl) rfl) rfl)) v_nil rfl) rfl) rfl (by decide) rfl rfl) (a_cons (v_ C (i := 2) rfl rfl) (a_cons (v_ C (i := 3) rfl rfl) a_nil rfl) rfl) rfl) rfl)))
 s_nil)))
theorem d13 (g : G K mg fds) (k : Nat) (ih : ∀ j, j < 19 → Ok w K mg base fds k j) : Ok w K mg base fds (k + 1) 13 := by
  refine fn_ok (T := TT K) (N := N13) (ps := ps13) (prot := [0]) (sem := b13 (sem pds k)) g.F13 sc13 (by decide) fun cdv A outer s H E hr => ?_
  have C := Cxb.ofDef (P := PR) (w := w) (T := TT K) (mg := mg) (base := base) (outer := outer) (H := H) (E := E) (l := [0, 1, 2, 3, 4, 5, 6]) (m := [0, 1, 2, 3, 4, 5, 6]) sc13 (by decide +kernel) (by decide +kernel) hr
  exact (s_cons (par_ C (i := 3) (j := 4) rfl rfl rfl rfl (by decide) rfl rfl (call_ (x := "_law_pairs") C (ih 11 (by decide)) g.a11 sem_len (vio_ C (i := 0) rfl rfl (v_val (v_ C (i := 2) rfl rfl) v_nil rfl) rfl) rfl (by decide) rfl rfl) (e_lst a_nil) rfl rfl (by kernel_rfl) rfl)
 (s_cons (for_ C (passes_of rfl) rfl (i_rng1 rfl g.h_range (a_cons (call_ (x := "_law_next") C (ih 8 (by decide)) g.a8 sem_len (vio_ C (i := 0) rfl rfl (v_val (e_op (k_add C) (v_ C (i := 1) rfl rfl) e_int) v_nil rfl) rfl) rfl (by decide) rfl rfl) a_nil rfl) rfl) (nm_ C (i := 5) rfl rfl) (s_cons (set_ C false (i := 6) rfl rfl rfl (e_and C.hK (e_cmp (k_eq C) (call_ (x := "_law_next") C (ih 8 (by decide)) g.a8 sem_len (vio_ C (i := 0) rfl rfl (v_val e_int v_nil rfl) rfl) rfl (by decide) rfl rfl) e_int rfl) (e_one (e_lend (i := 4) (e_cmp (k_ne C) (v_ C (i := 4) rfl rfl) (e_lst a_nil) rfl)))) rfl)
 (s_cons (app_ C (i := 4) rfl rfl (e_if (t_tru C.hK (v_ C (i := 6) rfl rfl) (fun _ => rfl)) (e_lend (i := 4) (call_ (x := "_law_pick") C (ih 9 (by decide)) g.a9 sem_len (vio_ C (i := 0) rfl rfl (v_val (v_ C (i := 4) rfl rfl) v_nil rfl) rfl) rfl (by decide) rfl rfl)) (call_ (x := "_law_link") C (ih 12 (by decide)) g.a12 sem_len (vio_ C (i := 0) rfl rfl (v_val (v_ C (i := 3) rfl rfl) v_nil rfl) rfl) rfl (by decide) rfl rfl)) rfl rfl rfl rfl rfl)
 s_nil)) (fun _ => rfl))
 (s_cons (s_ret (mv_ C (i := 4) rfl rfl))
 s_nil)))
theorem d14 (g : G K mg fds) (k : Nat) (ih : ∀ j, j < 19 → Ok w K mg base fds k j) : Ok w K mg base fds (k + 1) 14 := by
  refine fn_ok (T := TT K) (N := N14) (ps := ps14) (prot := [0]) (sem := b14 (sem pds k)) g.F14 sc14 (by decide) fun cdv A outer s H E hr => ?_
  have C := Cxb.ofDef (P := PR) (w := w) (T := TT K) (mg := mg) (base := base) (outer := outer) (H := H) (E := E) (l := [0, 1]) (m := [0, 1]) sc14 (by decide +kernel) (by decide +kernel) hr
  exact (s_cons (s_ret (e_if (t_cmp (k_eq C) (call_ (x := "_law_next") C (ih 8 (by decide)) g.a8 sem_len (vio_ C (i := 0) rfl rfl (v_val e_int v_nil rfl) rfl) rfl (by decide) rfl rfl) e_int rfl) (e_op (k_add C) e_int (call_ (x := "_law_next") C (ih 8 (by decide)) g.a8 sem_len (vio_ C (i := 0) rfl rfl (v_val (e_op (k_sub C) (v_ C (i := 1) rfl rfl) e_int) v_nil rfl) rfl) rfl (by decide) rfl rfl)) (e_op (k_add C) e_int (call_ (x := "_law_next") C (ih 8 (by decide)) g.a8 sem_len (vio_ C (i := 0) rfl rfl (v_val e_int v_nil rfl) rfl) rfl (by decide) rfl rfl))))
 s_nil)
theorem d15 (g : G K mg fds) (k : Nat) (ih : ∀ j, j < 19 → Ok w K mg base fds k j) : Ok w K mg base fds (k + 1) 15 := by
  refine fn_ok (T := TT K) (N := N15) (ps := ps15) (prot := [0]) (sem := b15 (sem pds k)) g.F15 sc15 (by decide) fun cdv A outer s H E hr => ?_
  have C := Cxb.ofDef (P := PR) (w := w) (T := TT K) (mg := mg) (base := base) (outer := outer) (H := H) (E := E) (l := [0, 1, 2, 3, 4]) (m := [0, 1, 2, 3, 4]) sc15 (by decide +kernel) (by decide +kernel) hr
  exact (s_cons (set_ C false (i := 2) rfl rfl rfl (call_ (x := "_law_next") C (ih 8 (by decide)) g.a8 sem_len (vio_ C (i := 0) rfl rfl (v_val e_int v_nil rfl) rfl) rfl (by decide) rfl rfl) rfl)
 (s_cons (s_if (PW.pt (w_or (t_cmp (k_eq C) (v_ C (i := 2) rfl rfl) e_int rfl) (w_one (t_cmp (k_eq C) (v_ C (i := 1) rfl rfl) (e_lst a_nil) rfl) .Or))) (s_cons (s_ret (e_mulL (e_lst (a_cons (e_tup (a_cons e_int (a_cons e_int (a_cons e_str (a_cons e_str a_nil rfl) rfl) rfl) rfl)) a_nil rfl)) (call_ (x := "_law_next") C (ih 8 (by decide)) g.a8 sem_len (vio_ C (i := 0) rfl rfl (v_val e_int v_nil rfl) rfl) rfl (by decide) rfl rfl)))
 s_nil) s_nil)
 (s_cons (s_if (t_cmp (k_eq C) (v_ C (i := 2) rfl rfl) e_int rfl) (s_cons (set_ C false (i := 3) rfl rfl rfl (e_ix C.hK (call_ (x := "_law_pick") C (ih 9 (by decide)) g.a9 sem_len (vio_ C (i := 0) rfl rfl (v_val (v_ C (i := 1) rfl rfl) v_nil rfl) rfl) rfl (by decide) rfl rfl) e_int (fun _ _ => rfl)) rfl)
 (s_cons (s_ret (lc_ C [3, 5] [5] [("link", 5)] (by kernel_rfl) (by kernel_rfl) (by kernel_rfl) rfl (i_seq C.hK (v_ C (i := 1) rfl rfl)) (fun _ _ _ _ _ C2 => (nm_ C2 (i := 5) rfl rfl)) (fun _ _ _ _ _ C2 => (c_one (t_cmp (k_in C2) (v_ C2 (i := 3) rfl rfl) (v_ C2 (i := 5) rfl rfl) rfl))) (fun _ _ _ _ _ C2 => (v_ C2 (i := 5) rfl rfl)) (fun _ => rfl)))
 s_nil)) s_nil)
 (s_cons (setLc_ C [0, 5] [5] [("link", 5)] false (i := 4) rfl rfl rfl rfl (by kernel_rfl) (by kernel_rfl) (by kernel_rfl) rfl (i_seq C.hK (v_ C (i := 1) rfl rfl)) (fun _ _ _ _ _ C1 => (nm_ C1 (i := 5) rfl rfl)) (fun _ _ _ _ _ C1 => (c_one (t_cmp (k_eq C1) (call_ (x := "_law_next") C1 (ih 8 (by decide)) g.a8 sem_len (vio_ C1 (i := 0) rfl rfl (v_val e_int v_nil rfl) rfl) rfl (by decide) rfl rfl) e_int rfl))) (fun _ _ _ _ _ C1 => (v_ C1 (i := 5) rfl rfl)) (fun _ => rfl))
 (s_cons (s_ret (e_if (t_cmp (k_eq C) (v_ C (i := 2) rfl rfl) e_int rfl) (e_op (k_add C) (v_ C (i := 4) rfl rfl) (e_lst (a_cons (e_tup (a_cons e_int (a_cons e_int (a_cons e_str (a_cons e_str a_nil rfl) rfl) rfl) rfl)) a_nil rfl))) (e_rev C.hK (v_ C (i := 4) rfl rfl))))
 s_nil)))))
theorem d16 (g : G K mg fds) (k : Nat) (ih : ∀ j, j < 19 → Ok w K mg base fds k j) : Ok w K mg base fds (k + 1) 16 := by
  refine fn_ok (T := TT K) (N := N16) (ps := ps16) (prot := []) (sem := b16 (sem pds k)) g.F16 sc16 (by decide) fun cdv A outer s H E hr => ?_
  have C := Cxb.ofDef (P := PR) (w := w) (T := TT K) (mg := mg) (base := base) (outer := outer) (H := H) (E := E) (l := [0, 1, 2, 3, 4]) (m := [0, 1, 2, 3, 4]) sc16 (by decide +kernel) (by decide +kernel) hr
  exact (s_cons (set_ C true (i := 2) rfl rfl rfl (e_lst (a_cons (v_ C (i := 1) rfl rfl) a_nil rfl)) rfl)
 (s_cons (for_ C (passes_of rfl) rfl (i_rng1 rfl g.h_range (a_cons (e_callB (x := "len") (j_len C) rfl g.h_len boot_len (a_cons (v_ C (i := 0) rfl rfl) a_nil rfl) (by decide) (by decide) rfl rfl) a_nil rfl) rfl) (nm_ C (i := 3) rfl rfl) (s_cons (for_ C (passes_of rfl) rfl (i_seq C.hK (v_ C (i := 0) rfl rfl)) (nm_ C (i := 4) rfl rfl) (s_cons (s_if (t_cmp (k_ne C) (e_lend (i := 2) (e_cmp (k_in C) (e_ix C.hK (v_ C (i := 4) rfl rfl) e_int (fun _ _ => rfl)) (v_ C (i := 2) rfl rfl) rfl)) (e_lend (i := 2) (e_cmp (k_in C) (e_ix C.hK (v_ C (i := 4) rfl rfl) e_int (fun _ _ => rfl)) (v_ C (i := 2) rfl rfl) rfl)) rfl) (s_cons (app_ C (i := 2) rfl rfl (e_if (t_lend (i := 2) (t_cmp (k_in C) (e_ix C.hK (v_ C (i := 4) rfl rfl) e_int (fun _ _ => rfl)) (v_ C (i := 2) rfl rfl) rfl)) (e_ix C.hK (v_ C (i := 4) rfl rfl) e_int (fun _ _ => rfl)) (e_ix C.hK (v_ C (i := 4) rfl rfl) e_int (fun _ _ => rfl))) rfl rfl rfl rfl rfl)
 s_nil) s_nil)
 s_nil) (fun _ => rfl))
 s_nil) (fun _ => rfl))
 (s_cons (s_ret (mv_ C (i := 2) rfl rfl))
 s_nil)))
theorem d17 (g : G K mg fds) (k : Nat) (ih : ∀ j, j < 19 → Ok w K mg base fds k j) : Ok w K mg base fds (k + 1) 17 := by
  refine fn_ok (T := TT K) (N := N17) (ps := ps17) (prot := []) (sem := b17 (sem pds k)) g.F17 sc17 (by decide) fun cdv A outer s H E hr => ?_
  have C := Cxb.ofDef (P := PR) (w := w) (T := TT K) (mg := mg) (base := base) (outer := outer) (H := H) (E := E) (l := [0, 1, 2, 3, 4, 5, 6]) (m := [0, 1, 2, 3, 4, 5, 6]) sc17 (by decide +kernel) (by decide +kernel) hr
  exact (s_cons (par_ C (i := 1) (j := 2) rfl rfl rfl rfl (by decide) rfl rfl e_dict0 (e_lst a_nil) rfl rfl (by kernel_rfl) rfl)
 (s_cons (for_ C (passes_of rfl) rfl (i_seq C.hK (v_ C (i := 0) rfl rfl)) (nm_ C (i := 3) rfl rfl) (s_cons (par_ C (i := 4) (j := 5) rfl rfl rfl rfl (by decide) rfl rfl (e_lend (i := 1) (get2_ C (v_ C (i := 1) rfl rfl) (e_ix C.hK (v_ C (i := 3) rfl rfl) e_int (fun _ _ => rfl)) (e_tup (a_cons (e_ix C.hK (v_ C (i := 3) rfl rfl) e_int (fun _ _ => rfl)) a_nil rfl)) ⟨rfl, rfl, rfl, rfl⟩)) (e_lend (i := 1) (get2_ C (v_ C (i := 1) rfl rfl) (e_ix C.hK (v_ C (i := 3) rfl rfl) e_int (fun _ _ => rfl)) (e_tup (a_cons (e_ix C.hK (v_ C (i := 3) rfl rfl) e_int (fun _ _ => rfl)) a_nil rfl)) ⟨rfl, rfl, rfl, rfl⟩)) rfl rfl (by kernel_rfl) rfl)
 (s_cons (s_if (t_cmp (k_notIn C) (e_ix C.hK (v_ C (i := 3) rfl rfl) e_int (fun _ _ => rfl)) (v_ C (i := 4) rfl rfl) rfl) (s_cons (app_ C (i := 2) rfl rfl (v_ C (i := 3) rfl rfl) rfl rfl rfl rfl rfl)
 (s_cons (for_ C (passes_of rfl) rfl (i_seq C.hK (e_op (k_add C) (v_ C (i := 4) rfl rfl) (v_ C (i := 5) rfl rfl))) (nm_ C (i := 6) rfl rfl) (s_cons (put_ C (i := 1) rfl rfl (e_op (k_add C) (v_ C (i := 4) rfl rfl) (v_ C (i := 5) rfl rfl)) (v_ C (i := 6) rfl rfl) rfl rfl (fun _ => rfl) rfl)
 s_nil) (fun _ => rfl))
 s_nil)) s_nil)
 s_nil)) (fun _ => rfl))
 (s_cons (s_ret (mv_ C (i := 2) rfl rfl))
 s_nil)))
theorem d18 (g : G K mg fds) (k : Nat) (ih : ∀ j, j < 19 → Ok w K mg base fds k j) : Ok w K mg base fds (k + 1) 18 := by
  refine fn_ok (T := TT K) (N := N18) (ps := ps18) (prot := []) (sem := b18 (sem pds k)) g.F18 sc18 (by decide) fun cdv A outer s H E hr => ?_
  have C := Cxb.ofDef (P := PR) (w := w) (T := TT K) (mg := mg) (base := base) (outer := outer) (H := H) (E := E) (l := [0, 1, 2, 3, 4, 5, 6, 7, 8, 9, 10, 11]) (m := [0, 1, 2, 3, 4, 5, 6, 7, 8, 9, 10, 11]) sc18 (by decide +kernel) (by decide +kernel) hr
  exact (s_cons (set_ C true (i := 1) rfl rfl rfl (call_ (x := "_law_begun") C (ih 7 (by decide)) g.a7 sem_len (v_val (e_ix C.hK (e_or C.hK (v_ C (i := 0) rfl rfl) (e_one (e_lst (a_cons e_int a_nil rfl)))) e_int (fun _ _ => rfl)) (v_val e_int v_nil rfl) rfl) rfl (by decide) rfl rfl) rfl)
 (s_cons (set_ C false (i := 2) rfl rfl rfl (ss_ C g.h_sorted g.h_set rfl rfl (a_cons (call_ (x := "_law_links") C (ih 13 (by decide)) g.a13 sem_len (vio_ C (i := 1) rfl rfl (v_val e_int (v_val (call_ (x := "_law_spots") C (ih 10 (by decide)) g.a10 sem_len (vio_ C (i := 1) rfl rfl (v_val (e_op (k_add C) e_int (call_ (x := "_law_next") C (ih 8 (by decide)) g.a8 sem_len (vio_ C (i := 1) rfl rfl (v_val e_int v_nil rfl) rfl) rfl (by decide) rfl rfl)) v_nil rfl) rfl) rfl (by decide) rfl rfl) v_nil rfl) rfl) rfl) rfl (by decide) rfl rfl) a_nil rfl) rfl rfl) rfl)
 (s_cons (s_if (t_cmp (k_ne C) (callD_ (x := "net") C (ih 6 (by decide)) g.a6 g.m6 sem_len (v_val (e_rev C.hK (v_ C (i := 2) rfl rfl)) v_nil rfl) rfl (by decide) rfl rfl) (call_ (x := "_law_by_groups") C (ih 17 (by decide)) g.a17 sem_len (v_val (v_ C (i := 2) rfl rfl) v_nil rfl) rfl (by decide) rfl rfl) rfl) (s_cons (s_ret e_bl)
 s_nil) s_nil)
 (s_cons (set_ C false (i := 3) rfl rfl rfl (lc_ C [1, 12] [12] [("link", 12)] (by kernel_rfl) (by kernel_rfl) (by kernel_rfl) rfl (i_seq C.hK (v_ C (i := 2) rfl rfl)) (fun _ _ _ _ _ C5 => (nm_ C5 (i := 12) rfl rfl)) (fun _ _ _ _ _ C5 => (c_one (t_cmp (k_gt C5) (call_ (x := "_law_next") C5 (ih 8 (by decide)) g.a8 sem_len (vio_ C5 (i := 1) rfl rfl (v_val e_int v_nil rfl) rfl) rfl (by decide) rfl rfl) e_int rfl))) (fun _ _ _ _ _ C5 => (v_ C5 (i := 12) rfl rfl)) (fun _ => rfl)) rfl)
 (s_cons (s_if (t_cmp (k_ne C) (callN_ (x := "net") C (ih 6 (by decide)) g.a6 sem_len (v_val (e_rev C.hK (v_ C (i := 2) rfl rfl)) v_nil rfl) (kv_val (v_ C (i := 3) rfl rfl) kv_nil) (len_val len_nil') (len_val len_nil') rfl (by decide) rfl rfl rfl rfl) (call_ (x := "_law_by_groups") C (ih 17 (by decide)) g.a17 sem_len (v_val (lc_ C [3, 12] [12] [("link", 12)] (by kernel_rfl) (by kernel_rfl) (by kernel_rfl) rfl (i_seq C.hK (v_ C (i := 2) rfl rfl)) (fun _ _ _ _ _ C4 => (nm_ C4 (i := 12) rfl rfl)) (fun _ _ _ _ _ C4 => (c_one (t_cmp (k_notIn C4) (v_ C4 (i := 12) rfl rfl) (v_ C4 (i := 3) rfl rfl) rfl))) (fun _ _ _ _ _ C4 => (v_ C4 (i := 12) rfl rfl)) (fun _ => rfl)) v_nil rfl) rfl (by decide) rfl rfl) rfl) (s_cons (s_ret e_bl)
 s_nil) s_nil)
 (s_cons (for_ C (passes_of rfl) rfl (i_enum C.hK rfl g.h_enumerate (a_cons (e_sl C.hK (e_or C.hK (v_ C (i := 0) rfl rfl) (e_one (e_lst (a_cons e_int a_nil rfl)))) p_none (p_some e_int)) a_nil rfl) rfl) (g_tup (n := 2) C.hK C.calm (gs_cons (nm_ C (i := 4) rfl rfl) (gs_cons (nm_ C (i := 5) rfl rfl) gs_nil rfl) rfl) rfl rfl) (s_cons (set_ C true (i := 1) rfl rfl rfl (call_ (x := "_law_begun") C (ih 7 (by decide)) g.a7 sem_len (v_val (v_ C (i := 5) rfl rfl) (v_val (v_ C (i := 4) rfl rfl) v_nil rfl) rfl) rfl (by decide) rfl rfl) rfl)
 (s_cons (set_ C false (i := 6) rfl rfl rfl (call_ (x := "_law_spots") C (ih 10 (by decide)) g.a10 sem_len (vio_ C (i := 1) rfl rfl (v_val (call_ (x := "_law_many") C (ih 14 (by decide)) g.a14 sem_len (vio_ C (i := 1) rfl rfl (v_val e_int v_nil rfl) rfl) rfl (by decide) rfl rfl) v_nil rfl) rfl) rfl (by decide) rfl rfl) rfl)
 (s_cons (set_ C false (i := 7) rfl rfl rfl (call_ (x := "_law_links") C (ih 13 (by decide)) g.a13 sem_len (vio_ C (i := 1) rfl rfl (v_val e_int (v_val (v_ C (i := 6) rfl rfl) v_nil rfl) rfl) rfl) rfl (by decide) rfl rfl) rfl)
 (s_cons (set_ C false (i := 3) rfl rfl rfl (call_ (x := "_law_gone") C (ih 15 (by decide)) g.a15 sem_len (vio_ C (i := 1) rfl rfl (v_val (v_ C (i := 7) rfl rfl) v_nil rfl) rfl) rfl (by decide) rfl rfl) rfl)
 (s_cons (set_ C false (i := 2) rfl rfl rfl (ss_ C g.h_sorted g.h_set rfl rfl (a_cons (lc_ C [3, 12] [12] [("link", 12)] (by kernel_rfl) (by kernel_rfl) (by kernel_rfl) rfl (i_seq C.hK (v_ C (i := 7) rfl rfl)) (fun _ _ _ _ _ C3 => (nm_ C3 (i := 12) rfl rfl)) (fun _ _ _ _ _ C3 => (c_one (t_cmp (k_notIn C3) (v_ C3 (i := 12) rfl rfl) (v_ C3 (i := 3) rfl rfl) rfl))) (fun _ _ _ _ _ C3 => (v_ C3 (i := 12) rfl rfl)) (fun _ => rfl)) a_nil rfl) rfl rfl) rfl)
 (s_cons (setLc_ C [2, 12, 13] [13, 12] [("at", 13), ("link", 12)] false (i := 8) rfl rfl rfl rfl (by kernel_rfl) (by kernel_rfl) (by kernel_rfl) rfl (i_enum C.hK rfl g.h_enumerate (a_cons (v_ C (i := 2) rfl rfl) a_nil rfl) rfl) (fun _ _ _ _ _ C2 => (g_tup (n := 2) C2.hK C2.calm (gs_cons (nm_ C2 (i := 13) rfl rfl) (gs_cons (nm_ C2 (i := 12) rfl rfl) gs_nil rfl) rfl) rfl rfl)) (fun _ _ _ _ _ C2 => (c_one (t_cmp (k_notIn C2) (e_ix C2.hK (v_ C2 (i := 12) rfl rfl) e_int (fun _ _ => rfl)) (call_ (x := "_law_near") C2 (ih 16 (by decide)) g.a16 sem_len (v_val (e_sl C2.hK (v_ C2 (i := 2) rfl rfl) p_none (p_some (v_ C2 (i := 13) rfl rfl))) (v_val (e_ix C2.hK (v_ C2 (i := 12) rfl rfl) e_int (fun _ _ => rfl)) v_nil rfl) rfl) rfl (by decide) rfl rfl) rfl))) (fun _ _ _ _ _ C2 => (v_ C2 (i := 12) rfl rfl)) (fun _ => rfl))
 (s_cons (for_ C (passes_of rfl) rfl (i_seq C.hK (e_lst (a_cons (e_tup (a_cons (e_callTy (x := "list") (j_list C) rfl g.h_list boot_list (a_cons (v_ C (i := 7) rfl rfl) a_nil rfl) (by decide) (by decide) rfl rfl) (a_cons (e_callTy (x := "list") (j_list C) rfl g.h_list boot_list (a_cons (v_ C (i := 3) rfl rfl) a_nil rfl) (by decide) (by decide) rfl rfl) a_nil rfl) rfl)) (a_cons (e_tup (a_cons (e_callTy (x := "tuple") (j_tuple C) rfl g.h_tuple boot_tuple (a_cons (v_ C (i := 7) rfl rfl) a_nil rfl) (by decide) (by decide) rfl rfl) (a_cons (e_callTy (x := "tuple") (j_tuple C) rfl g.h_tuple boot_tuple (a_cons (v_ C (i := 3) rfl rfl) a_nil rfl) (by decide) (by decide) rfl rfl) a_nil rfl) rfl)) a_nil rfl) rfl))) (g_tup (n := 2) C.hK C.calm (gs_cons (nm_ C (i := 9) rfl rfl) (gs_cons (nm_ C (i := 10) rfl rfl) gs_nil rfl) rfl) rfl rfl) (s_cons (set_ C true (i := 11) rfl rfl rfl (callN_ (x := "net") C (ih 6 (by decide)) g.a6 sem_len (v_val (v_ C (i := 9) rfl rfl) v_nil rfl) (kv_val (v_ C (i := 10) rfl rfl) kv_nil) (len_val len_nil') (len_val len_nil') rfl (by decide) rfl rfl rfl rfl) rfl)
 (s_cons (s_if (PW.pt (w_or (t_not (t_tru C.hK (e_lend (i := 11) (e_isi (x := "") C.hK (v_ C (i := 11) rfl rfl) (e_tyName (x := "list") (t := "list") rfl g.h_list boot_list (by decide) (by decide)) rfl g.h_isinstance rfl rfl rfl)) (fun _ => rfl))) (w_one (t_lend (i := 11) (t_cmp (k_ne C) (v_ C (i := 11) rfl rfl) (v_ C (i := 8) rfl rfl) rfl)) .Or))) (s_cons (s_ret e_bl)
 s_nil) s_nil)
 (s_cons (app_ C (i := 11) rfl rfl e_str rfl rfl rfl rfl rfl)
 (s_cons (s_if (PW.pt (w_or (t_cmp (k_ne C) (callN_ (x := "net") C (ih 6 (by decide)) g.a6 sem_len (v_val (v_ C (i := 9) rfl rfl) v_nil rfl) (kv_val (v_ C (i := 10) rfl rfl) kv_nil) (len_val len_nil') (len_val len_nil') rfl (by decide) rfl rfl rfl rfl) (v_ C (i := 8) rfl rfl) rfl) (w_or (t_cmp (k_ne C) (e_callTy (x := "list") (j_list C) rfl g.h_list boot_list (a_cons (v_ C (i := 9) rfl rfl) a_nil rfl) (by decide) (by decide) rfl rfl) (v_ C (i := 7) rfl rfl) rfl) (w_one (t_cmp (k_ne C) (e_callTy (x := "list") (j_list C) rfl g.h_list boot_list (a_cons (v_ C (i := 10) rfl rfl) a_nil rfl) (by decide) (by decide) rfl rfl) (v_ C (i := 3) rfl rfl) rfl) .Or)))) (s_cons (s_ret e_bl)
 s_nil) s_nil)
 s_nil)))) (fun _ => rfl))
 (s_cons (set_ C false (i := 2) rfl rfl rfl (ss_ C g.h_sorted g.h_set rfl rfl (a_cons (v_ C (i := 7) rfl rfl) a_nil rfl) rfl rfl) rfl)
 (s_cons (setLc_ C [2, 12, 13] [13, 12] [("at", 13), ("link", 12)] false (i := 8) rfl rfl rfl rfl (by kernel_rfl) (by kernel_rfl) (by kernel_rfl) rfl (i_enum C.hK rfl g.h_enumerate (a_cons (v_ C (i := 2) rfl rfl) a_nil rfl) rfl) (fun _ _ _ _ _ C1 => (g_tup (n := 2) C1.hK C1.calm (gs_cons (nm_ C1 (i := 13) rfl rfl) (gs_cons (nm_ C1 (i := 12) rfl rfl) gs_nil rfl) rfl) rfl rfl)) (fun _ _ _ _ _ C1 => (c_one (t_cmp (k_notIn C1) (e_ix C1.hK (v_ C1 (i := 12) rfl rfl) e_int (fun _ _ => rfl)) (call_ (x := "_law_near") C1 (ih 16 (by decide)) g.a16 sem_len (v_val (e_sl C1.hK (v_ C1 (i := 2) rfl rfl) p_none (p_some (v_ C1 (i := 13) rfl rfl))) (v_val (e_ix C1.hK (v_ C1 (i := 12) rfl rfl) e_int (fun _ _ => rfl)) v_nil rfl) rfl) rfl (by decide) rfl rfl) rfl))) (fun _ _ _ _ _ C1 => (v_ C1 (i := 12) rfl rfl)) (fun _ => rfl))
 (s_cons (s_if (PW.pt (w_or (t_cmp (k_ne C) (callD_ (x := "net") C (ih 6 (by decide)) g.a6 g.m6 sem_len (v_val (v_ C (i := 7) rfl rfl) v_nil rfl) rfl (by decide) rfl rfl) (v_ C (i := 8) rfl rfl) rfl) (w_or (t_cmp (k_ne C) (callN_ (x := "net") C (ih 6 (by decide)) g.a6 sem_len (v_val (v_ C (i := 2) rfl rfl) v_nil rfl) (kv_val (e_lst a_nil) kv_nil) (len_val len_nil') (len_val len_nil') rfl (by decide) rfl rfl rfl rfl) (v_ C (i := 8) rfl rfl) rfl) (w_one (t_cmp (k_ne C) (callD_ (x := "net") C (ih 6 (by decide)) g.a6 g.m6 sem_len (v_val (e_rev C.hK (v_ C (i := 2) rfl rfl)) v_nil rfl) rfl (by decide) rfl rfl) (v_ C (i := 8) rfl rfl) rfl) .Or)))) (s_cons (s_ret e_bl)
 s_nil) s_nil)
 s_nil)))))))))) (fun _ => rfl))
 (s_cons (s_ret (e_and C.hK (e_cmp (k_eq C) (callD_ (x := "net") C (ih 6 (by decide)) g.a6 g.m6 sem_len (v_val (e_lst a_nil) v_nil rfl) rfl (by decide) rfl rfl) (e_lst a_nil) rfl) (e_one (e_cmp (k_eq C) (callN_ (x := "net") C (ih 6 (by decide)) g.a6 sem_len (v_val (e_lst a_nil) v_nil rfl) (kv_val (e_lst (a_cons (e_tup (a_cons e_int (a_cons e_int (a_cons e_str (a_cons e_str a_nil rfl) rfl) rfl) rfl)) a_nil rfl)) kv_nil) (len_val len_nil') (len_val len_nil') rfl (by decide) rfl rfl rfl rfl) (e_lst a_nil) rfl))))
 s_nil)))))))
theorem all (g : G K mg fds) : ∀ k i, i < 19 → Ok w K mg base fds k i := tab fun k ih i hi => by
  match i, hi with
  | 0, _ => exact d0 g k ih
  | 1, _ => exact d1 g k ih
  | 2, _ => exact d2 g k ih
  | 3, _ => exact d3 g k ih
  | 4, _ => exact d4 g k ih
  | 5, _ => exact d5 g k ih
  | 6, _ => exact d6 g k ih
  | 7, _ => exact d7 g k ih
  | 8, _ => exact d8 g k ih
  | 9, _ => exact d9 g k ih
  | 10, _ => exact d10 g k ih
  | 11, _ => exact d11 g k ih
  | 12, _ => exact d12 g k ih
  | 13, _ => exact d13 g k ih
  | 14, _ => exact d14 g k ih
  | 15, _ => exact d15 g k ih
  | 16, _ => exact d16 g k ih
  | 17, _ => exact d17 g k ih
  | 18, _ => exact d18 g k ih
  | k + 19, h => exact absurd h (Nat.not_lt.mpr (Nat.le_add_left _ _))
end
/-! ### the head -/
def fn : List He.DefD := [⟨("is_number", none), "is_number", "is_number", defArgs st0, defBody st0, defScope st0, [], []⟩, ⟨("is_place", none), "is_place", "is_place", defArgs st1, defBody st1, defScope st1, [], []⟩, ⟨("is_link", none), "is_link", "is_link", defArgs st2, defBody st2, defScope st2, [], []⟩, ⟨("need_links", none), "need_links", "need_links", defArgs st3, defBody st3, defScope st3, [], []⟩, ⟨("net_of", none), "net_of", "net_of", defArgs st4, defBody st4, defScope st4, [], []⟩, ⟨("left_of", none), "left_of", "left_of", defArgs st5, defBody st5, defScope st5, [], []⟩, ⟨("net", none), "net", "net", defArgs st6, defBody st6, defScope st6, [], [("struck", .adr (kwdAt ("net", none) "struck"))]⟩, ⟨("_law_begun", none), "_law_begun", "_law_begun", defArgs st7, defBody st7, defScope st7, [], []⟩, ⟨("_law_next", none), "_law_next", "_law_next", defArgs st8, defBody st8, defScope st8, [], []⟩, ⟨("_law_pick", none), "_law_pick", "_law_pick", defArgs st9, defBody st9, defScope st9, [], []⟩, ⟨("_law_spots", none), "_law_spots", "_law_spots", defArgs st10, defBody st10, defScope st10, [], []⟩, ⟨("_law_pairs", none), "_law_pairs", "_law_pairs", defArgs st11, defBody st11, defScope st11, [], []⟩, ⟨("_law_link", none), "_law_link", "_law_link", defArgs st12, defBody st12, defScope st12, [], []⟩, ⟨("_law_links", none), "_law_links", "_law_links", defArgs st13, defBody st13, defScope st13, [], []⟩, ⟨("_law_many", none), "_law_many", "_law_many", defArgs st14, defBody st14, defScope st14, [], []⟩, ⟨("_law_gone", none), "_law_gone", "_law_gone", defArgs st15, defBody st15, defScope st15, [], []⟩, ⟨("_law_near", none), "_law_near", "_law_near", defArgs st16, defBody st16, defScope st16, [], []⟩, ⟨("_law_by_groups", none), "_law_by_groups", "_law_by_groups", defArgs st17, defBody st17, defScope st17, [], []⟩, ⟨("law", none), "law", "law", defArgs st18, defBody st18, defScope st18, [], []⟩]
def fa : List He.Fa := [.glo "is_number", .glo "is_place", .glo "is_link", .glo "need_links", .glo "net_of", .glo "left_of", .glo "net", .glo "_law_begun", .glo "_law_next", .glo "_law_pick", .glo "_law_spots", .glo "_law_pairs", .glo "_law_link", .glo "_law_links", .glo "_law_many", .glo "_law_gone", .glo "_law_near", .glo "_law_by_groups", .glo "law", .free "all", .free "bool", .free "enumerate", .free "int", .free "isinstance", .free "len", .free "list", .free "max", .free "range", .free "set", .free "sorted", .free "str", .free "tuple", .free "zip", .int "MOST_COST" 1000000, .int "LONGEST_PLACE" 6]
def xf : List Xf := [.emp "net" "struck"]
def loose : List Str := ["MOST_COST", "LONGEST_PLACE", "KeepError", "NoLink", "is_number", "is_place", "is_link", "need_links", "net_of", "left_of", "net", "_law_begun", "_law_next", "_law_pick", "_law_spots", "_law_pairs", "_law_link", "_law_links", "_law_many", "_law_gone", "_law_near", "_law_by_groups"]
abbrev R : PySem.W.OpenRow := PySem.W.OpenLaw.row PySem.Challenge.rw_fewkept_k04_nets_made
abbrev hk : PySem.W.Hook := hookE 6 fa fn xf
def ob (s : PySem.W.SharedT) : AlE := obsE 6 fa fn xf (HandSHeadRun.getT s)
theorem ob_eq (s : PySem.W.SharedT) : ob s = hk.obs s.abs := obsE_eq (HandSHeadRun.getT_eq s)
theorem run (w : World) : HandSHeadRun.RunEq R (PySem.W.view R.prog [26]) hk ob 4000 loose w := by
  intro os
  kernel_rfl
theorem link {K : PySem.W.Frag} {h : Heap} {mg : Str → Option Value} (X : K.In h) (G0 : h.Ns mainGlobals mg) (c : SaysE fa fn xf K) : ∃ fds, G K mg fds := by
  obtain ⟨fd0, F0⟩ := c.d.def_ 0 rfl
  obtain ⟨fd1, F1⟩ := c.d.def_ 1 rfl
  obtain ⟨fd2, F2⟩ := c.d.def_ 2 rfl
  obtain ⟨fd3, F3⟩ := c.d.def_ 3 rfl
  obtain ⟨fd4, F4⟩ := c.d.def_ 4 rfl
  obtain ⟨fd5, F5⟩ := c.d.def_ 5 rfl
  obtain ⟨fd6, F6⟩ := c.d.def_ 6 rfl
  obtain ⟨fd7, F7⟩ := c.d.def_ 7 rfl
  obtain ⟨fd8, F8⟩ := c.d.def_ 8 rfl
  obtain ⟨fd9, F9⟩ := c.d.def_ 9 rfl
  obtain ⟨fd10, F10⟩ := c.d.def_ 10 rfl
  obtain ⟨fd11, F11⟩ := c.d.def_ 11 rfl
  obtain ⟨fd12, F12⟩ := c.d.def_ 12 rfl
  obtain ⟨fd13, F13⟩ := c.d.def_ 13 rfl
  obtain ⟨fd14, F14⟩ := c.d.def_ 14 rfl
  obtain ⟨fd15, F15⟩ := c.d.def_ 15 rfl
  obtain ⟨fd16, F16⟩ := c.d.def_ 16 rfl
  obtain ⟨fd17, F17⟩ := c.d.def_ 17 rfl
  obtain ⟨fd18, F18⟩ := c.d.def_ 18 rfl
  refine ⟨fun i => ([fd0, fd1, fd2, fd3, fd4, fd5, fd6, fd7, fd8, fd9, fd10, fd11, fd12, fd13, fd14, fd15, fd16, fd17, fd18] : List FuncData).getD i fd0, ?_⟩
  exact {
    F0 := F0
    a0 := ⟨He.glo_ok X G0 (c.d.fact 0 rfl), F0.kp, F0.bindsN fun _ _ _ _ _ _ us hl => match us, hl with | [_, _], _ => rfl⟩
    F1 := F1
    a1 := ⟨He.glo_ok X G0 (c.d.fact 1 rfl), F1.kp, F1.bindsN fun _ _ _ _ _ _ us hl => match us, hl with | [_], _ => rfl⟩
    F2 := F2
    a2 := ⟨He.glo_ok X G0 (c.d.fact 2 rfl), F2.kp, F2.bindsN fun _ _ _ _ _ _ us hl => match us, hl with | [_], _ => rfl⟩
    F3 := F3
    a3 := ⟨He.glo_ok X G0 (c.d.fact 3 rfl), F3.kp, F3.bindsN fun _ _ _ _ _ _ us hl => match us, hl with | [_], _ => rfl⟩
    F4 := F4
    a4 := ⟨He.glo_ok X G0 (c.d.fact 4 rfl), F4.kp, F4.bindsN fun _ _ _ _ _ _ us hl => match us, hl with | [_], _ => rfl⟩
    F5 := F5
    a5 := ⟨He.glo_ok X G0 (c.d.fact 5 rfl), F5.kp, F5.bindsN fun _ _ _ _ _ _ us hl => match us, hl with | [_, _], _ => rfl⟩
    F6 := F6
    a6 := ⟨He.glo_ok X G0 (c.d.fact 6 rfl), F6.kp, F6.binds0 1 (List.cons_ne_nil _ _) rfl fun _ _ _ _ _ _ us ks h1 h2 => match us, ks, h1, h2 with | [_], [_], _, _ => ⟨_, _, _, _, _, _, rfl, rfl, rfl⟩, kbinds0 F6 1 ["struck"] fun _ _ _ _ _ _ us ws h1 h2 => match us, ws, h1, h2 with | [_], [_], _, _ => rfl⟩
    m6 := emp_okX (c.xf 0 rfl)
    F7 := F7
    a7 := ⟨He.glo_ok X G0 (c.d.fact 7 rfl), F7.kp, F7.bindsN fun _ _ _ _ _ _ us hl => match us, hl with | [_, _], _ => rfl⟩
    F8 := F8
    a8 := ⟨He.glo_ok X G0 (c.d.fact 8 rfl), F8.kp, F8.bindsN fun _ _ _ _ _ _ us hl => match us, hl with | [_, _], _ => rfl⟩
    F9 := F9
    a9 := ⟨He.glo_ok X G0 (c.d.fact 9 rfl), F9.kp, F9.bindsN fun _ _ _ _ _ _ us hl => match us, hl with | [_, _], _ => rfl⟩
    F10 := F10
    a10 := ⟨He.glo_ok X G0 (c.d.fact 10 rfl), F10.kp, F10.bindsN fun _ _ _ _ _ _ us hl => match us, hl with | [_, _], _ => rfl⟩
    F11 := F11
    a11 := ⟨He.glo_ok X G0 (c.d.fact 11 rfl), F11.kp, F11.bindsN fun _ _ _ _ _ _ us hl => match us, hl with | [_, _], _ => rfl⟩
    F12 := F12
    a12 := ⟨He.glo_ok X G0 (c.d.fact 12 rfl), F12.kp, F12.bindsN fun _ _ _ _ _ _ us hl => match us, hl with | [_, _], _ => rfl⟩
    F13 := F13
    a13 := ⟨He.glo_ok X G0 (c.d.fact 13 rfl), F13.kp, F13.bindsN fun _ _ _ _ _ _ us hl => match us, hl with | [_, _, _], _ => rfl⟩
    F14 := F14
    a14 := ⟨He.glo_ok X G0 (c.d.fact 14 rfl), F14.kp, F14.bindsN fun _ _ _ _ _ _ us hl => match us, hl with | [_, _], _ => rfl⟩
    F15 := F15
    a15 := ⟨He.glo_ok X G0 (c.d.fact 15 rfl), F15.kp, F15.bindsN fun _ _ _ _ _ _ us hl => match us, hl with | [_, _], _ => rfl⟩
    F16 := F16
    a16 := ⟨He.glo_ok X G0 (c.d.fact 16 rfl), F16.kp, F16.bindsN fun _ _ _ _ _ _ us hl => match us, hl with | [_, _], _ => rfl⟩
    F17 := F17
    a17 := ⟨He.glo_ok X G0 (c.d.fact 17 rfl), F17.kp, F17.bindsN fun _ _ _ _ _ _ us hl => match us, hl with | [_], _ => rfl⟩
    F18 := F18
    a18 := ⟨He.glo_ok X G0 (c.d.fact 18 rfl), F18.kp, F18.bindsN fun _ _ _ _ _ _ us hl => match us, hl with | [_], _ => rfl⟩
    h_all := He.free_ok X G0 (c.d.fact 19 rfl)
    h_bool := He.free_ok X G0 (c.d.fact 20 rfl)
    h_enumerate := He.free_ok X G0 (c.d.fact 21 rfl)
    h_int := He.free_ok X G0 (c.d.fact 22 rfl)
    h_isinstance := He.free_ok X G0 (c.d.fact 23 rfl)
    h_len := He.free_ok X G0 (c.d.fact 24 rfl)
    h_list := He.free_ok X G0 (c.d.fact 25 rfl)
    h_max := He.free_ok X G0 (c.d.fact 26 rfl)
    h_range := He.free_ok X G0 (c.d.fact 27 rfl)
    h_set := He.free_ok X G0 (c.d.fact 28 rfl)
    h_sorted := He.free_ok X G0 (c.d.fact 29 rfl)
    h_str := He.free_ok X G0 (c.d.fact 30 rfl)
    h_tuple := He.free_ok X G0 (c.d.fact 31 rfl)
    h_zip := He.free_ok X G0 (c.d.fact 32 rfl)
    g_MOST_COST := He.int_ok X G0 (c.d.fact 33 rfl)
    g_LONGEST_PLACE := He.int_ok X G0 (c.d.fact 34 rfl)
  }
end Lw

set_option Elab.async false
set_option linter.all false
set_option maxRecDepth 100000
set_option maxHeartbeats 1000000
namespace Lw
open PySem PySem.Spec PyProof.Rows L2 FK
theorem gPow_int {i j : Int} (h : 0 ≤ j ∧ (Builtin.Int.intBits i : Int) * j ≤ 2 ^ 27) : gPow (.int i) (.int j) = some (.fr (.int (i ^ j.toNat))) := if_pos h
theorem p18 : gPow (.int 10) (.int 18) = some (.fr (.int 1000000000000000000)) := gPow_int (by decide)
theorem p6 : gPow (.int 10) (.int 6) = some (.fr (.int 1000000)) := gPow_int (by decide)
theorem p30 : gPow (.int 10) (.int 30) = some (.fr (.int 1000000000000000000000000000000)) := gPow_int (by decide)
theorem szL : sizeLine = 16777216 := rfl
theorem log_le {i : Int} {k : Nat} (h : i.natAbs < 2 ^ k) : i.natAbs.log2 ≤ k := by
  by_cases h0 : i.natAbs = 0
  · rw [h0, Nat.log2_zero]; exact Nat.zero_le _
  · exact Nat.le_of_lt ((Nat.log2_lt h0).mpr h)
theorem bits_le {i : Int} {k : Nat} (h : i.natAbs < 2 ^ k) : Builtin.Int.intBits i ≤ k + 1 := by
  have := log_le h
  unfold Builtin.Int.intBits
  split <;> omega
theorem abs_lt {i : Int} (h : 0 ≤ i ∧ i < 1267650600228229401496703205376) : i.natAbs < 2 ^ 100 := by
  have e : (2 : Nat) ^ 100 = 1267650600228229401496703205376 := by decide
  rw [e]; omega
theorem gMul_of {i j : Int} (hi : 0 ≤ i ∧ i < 1267650600228229401496703205376) (hj : 0 ≤ j ∧ j < 1267650600228229401496703205376) : gMul (.int i) (.int j) = some (.fr (.int (i * j))) := gMul_int (by
  have := log_le (abs_lt hi)
  have := log_le (abs_lt hj)
  omega)
theorem gPow3 {i : Int} (hi : 0 ≤ i ∧ i < 1267650600228229401496703205376) : gPow (.int i) (.int 3) = some (.fr (.int (i ^ 3))) := gPow_int (by
  have := bits_le (abs_lt hi)
  refine ⟨by decide, ?_⟩
  have e : (2 : Int) ^ 27 = 134217728 := by decide
  rw [e]; omega)
def Dr (n : Nat) (d : D) : Prop := ∃ a b c : Int, d = .list [.int a, .int b, .int c] ∧ 0 ≤ a ∧ 0 ≤ c ∧ c ≤ n
theorem gMax_int {i j : Int} : gMax [.int i, .int j] = some (.fr (.int (if j > i then j else i))) := rfl
theorem gList_of {ds : List D} (h : ds.length ≤ 1000) : gList ds = some (.ow (.list ds)) := if_pos (by rw [szL]; omega)
theorem gTuple_of {ds : List D} (h : ds.length ≤ 1000) : gTuple ds = some (.fr (.tuple ds)) := if_pos (by rw [szL]; omega)
theorem begun_ok {k : Nat} {a b : Int} (hb : 0 ≤ b ∧ b < 1000) : ∃ d, Dr 0 d ∧ sem pds (k + 1) 7 [.fr (.int a), .fr (.int b)] = .ok (.ow d) [.fr (.int a), .fr (.int b)] := by
  have hm : gMul (.int 977) (.int b) = some (.fr (.int (977 * b))) := gMul_of (by omega) (by omega)
  rw [e7]
  simp [b7, p18, hm, gMax_int, gList_of]
  refine ⟨_, _, _, rfl, ?_, Int.le_refl _, Int.le_refl _⟩
  split <;> omega
theorem next_ok {k n : Nat} {d : D} {s : Int} (hD : Dr n d) (hn : n ≤ 1000000) (hs : 0 < s) (hs2 : s < 10000000) :
    ∃ r d', Dr (n + 1) d' ∧ 0 ≤ r ∧ r < s ∧ sem pds (k + 1) 8 [.ow d, .fr (.int s)] = .ok (.fr (.int r)) [.ow d', .fr (.int s)] := by
  obtain ⟨a, b, c, rfl, h0, h1, h2⟩ := hD
  have hl : s.natAbs.log2 < 9000 := by
    have h3 : s.natAbs < 2 ^ 24 := by omega
    have := log_le h3
    omega
  rw [e8]
  by_cases ha : 0 < a
  · refine ⟨a % s, .list [.int (a / s), .int b, .int c], ⟨_, _, _, rfl, Int.ediv_nonneg h0 (by omega), h1, by omega⟩, Int.emod_nonneg _ (by omega), Int.emod_lt_of_pos _ hs, ?_⟩
    simp [b8, ha, gMod_int hs, gFdiv_int hs hl]
  · have u0 : 0 ≤ b % 2147483629 := Int.emod_nonneg _ (by decide)
    have u1 : b % 2147483629 < 2147483629 := Int.emod_lt_of_pos _ (by decide)
    have v0 : 0 ≤ b % 2147483587 := Int.emod_nonneg _ (by decide)
    have v1 : b % 2147483587 < 2147483587 := Int.emod_lt_of_pos _ (by decide)
    have m1 : gMod (.int b) (.int 2147483629) = some (.fr (.int (b % 2147483629))) := gMod_int (by decide)
    have m2 : gMod (.int b) (.int 2147483587) = some (.fr (.int (b % 2147483587))) := gMod_int (by decide)
    generalize b % 2147483629 = u at *
    generalize b % 2147483587 = v at *
    have w0 : 0 ≤ 7919 * (c + 1) * (c + 1) := Int.mul_nonneg (by omega) (by omega)
    have w1 : 7919 * (c + 1) * (c + 1) ≤ 7919 * 1000001 * 1000001 := Int.mul_le_mul (by omega) (by omega) (by omega) (by decide)
    have q1 : gMul (.int 104729) (.int (c + 1)) = some (.fr (.int (104729 * (c + 1)))) := gMul_of (by omega) (by omega)
    have q2 : gMul (.int 7919) (.int (c + 1)) = some (.fr (.int (7919 * (c + 1)))) := gMul_of (by omega) (by omega)
    have q3 : gMul (.int (7919 * (c + 1))) (.int (c + 1)) = some (.fr (.int (7919 * (c + 1) * (c + 1)))) := gMul_of (by omega) (by omega)
    generalize 7919 * (c + 1) * (c + 1) = ww at *
    have q4 : gMul (.int (u + 104729 * (c + 1))) (.int (v + ww + 11)) = some (.fr (.int ((u + 104729 * (c + 1)) * (v + ww + 11)))) := gMul_of (by omega) (by omega)
    have x0 : 0 ≤ (u + 104729 * (c + 1)) * (v + ww + 11) := Int.mul_nonneg (by omega) (by omega)
    have x1 : (u + 104729 * (c + 1)) * (v + ww + 11) ≤ 200000000000 * 10000000000000000 := Int.mul_le_mul (by omega) (by omega) (by omega) (by decide)
    generalize (u + 104729 * (c + 1)) * (v + ww + 11) = xx at *
    have q5 : gPow (.int xx) (.int 3) = some (.fr (.int (xx ^ 3))) := gPow3 (by omega)
    have q6 : gMod (.int (xx ^ 3)) (.int 2147483647) = some (.fr (.int (xx ^ 3 % 2147483647))) := gMod_int (by decide)
    have q7 : gFdiv (.int (xx ^ 3 % 2147483647)) (.int 11) = some (.fr (.int (xx ^ 3 % 2147483647 / 11))) := gFdiv_int (by decide) (by decide)
    refine ⟨xx ^ 3 % 2147483647 / 11 % s, .list [.int a, .int b, .int (c + 1)], ⟨_, _, _, rfl, h0, by omega, by omega⟩, Int.emod_nonneg _ (by omega), Int.emod_lt_of_pos _ hs, ?_⟩
    simp [b8, ha, m1, m2, q1, q2, q3, q4, q5, q6, q7, gMod_int hs]
theorem gLen_list {ds : List D} : gLen [.list ds] = some (.fr (.int ds.length)) := rfl
theorem gLen_tuple {ds : List D} : gLen [.tuple ds] = some (.fr (.int ds.length)) := rfl
theorem pick_ok {k n : Nat} {d : D} {xs : List D} (hD : Dr n d) (hn : n ≤ 1000000) (hx : xs ≠ []) (hl : xs.length < 10000000) :
    ∃ x d', x ∈ xs ∧ Dr (n + 1) d' ∧ sem pds (k + 2) 9 [.ow d, .fr (.list xs)] = .ok (.fr x) [.ow d', .fr (.list xs)] := by
  have h0 : 0 < xs.length := List.length_pos_iff.mpr hx
  obtain ⟨r, d', h1, h2, h3, h4⟩ := next_ok (k := k) (s := (xs.length : Int)) hD hn (by omega) (by omega)
  obtain ⟨x, h5, h6⟩ := atI_lt h2 h3
  have h7 : gIx (.list xs) (.int r) = some (.fr x) := by
    show (atI xs r).map B.fr = _
    rw [h6]; rfl
  refine ⟨x, d', h5, h1, ?_⟩
  rw [e9]
  simp [b9, gLen_list, h4, h7]
theorem pickS_ok {k n : Nat} {d : D} {z : Str} (hD : Dr n d) (hn : n ≤ 1000000) (hx : 0 < z.cps.size) (hl : z.cps.size < 10000000) :
    ∃ c d', c ∈ z.cps.toList ∧ Dr (n + 1) d' ∧ sem pds (k + 2) 9 [.ow d, .fr (.str z)] = .ok (.fr (.str ⟨#[c]⟩)) [.ow d', .fr (.str z)] := by
  obtain ⟨r, d', h1, h2, h3, h4⟩ := next_ok (k := k) (s := (z.length : Int)) hD hn (by show (0 : Int) < (z.cps.size : Nat); omega) (by show ((z.cps.size : Nat) : Int) < _; omega)
  have hz : z.length ≤ sizeLine := by rw [szL]; show z.cps.size ≤ _; omega
  obtain ⟨c, h5, h6⟩ := atI_lt (xs := z.cps.toList) h2 (by rw [Array.length_toList]; exact h3)
  have h7 : gIx (.str z) (.int r) = some (.fr (.str ⟨#[c]⟩)) := by
    show (if z.length ≤ sizeLine then (atI z.cps.toList r).map fun c => B.fr (.str ⟨#[c]⟩) else none) = _
    rw [if_pos hz, h6]; rfl
  have h8 : gLen [.str z] = some (.fr (.int z.length)) := if_pos hz
  refine ⟨c, d', h5, h1, ?_⟩
  rw [e9]
  simp [b9, h8, h4, h7]
theorem joinL_nil : ∀ ws : List Nat, TL.joinL [] (ws.map fun c => [c]) = ws
  | [] => rfl
  | [c] => rfl
  | c :: e :: r => by
    show [c] ++ ([] ++ TL.joinL [] ((e :: r).map fun c => [c])) = _
    rw [joinL_nil (e :: r)]; rfl
theorem join_signs (ws : List Nat) : (Txt.join (Str.ofString "") (ws.map fun c => ⟨#[c]⟩)).cps.toList = ws := by
  have h := TL.tl_join (Str.ofString "") (ws.map fun c => ⟨#[c]⟩)
  have e : (ws.map fun c => (⟨#[c]⟩ : Str)).map TL.tl = ws.map fun c => [c] := by rw [List.map_map]; rfl
  rw [e, TL.tl_ofString] at h
  rw [TL.join_eq]
  exact h.trans (joinL_nil ws)
theorem Dr.pure {n : Nat} {d : D} (h : Dr n d) : pureB (.ow d) = true := by
  obtain ⟨a, b, c, rfl, _⟩ := h
  simp
theorem Dr.mono {n m : Nat} {d : D} (h : Dr n d) (hm : n ≤ m) : Dr m d := by
  obtain ⟨a, b, c, e, h0, h1, h2⟩ := h
  exact ⟨a, b, c, e, h0, h1, by omega⟩
def Nm (z : Str) : Prop := 1 ≤ z.cps.size ∧ z.cps.size ≤ 6 ∧ ∀ c ∈ z.cps.toList, 97 ≤ c ∧ c ≤ 122
theorem strOk_of {z : Str} (h : ∀ c ∈ z.cps.toList, c < 128) : PyData.strOk z = true := by
  unfold PyData.strOk
  rw [Array.all_eq_true]
  intro i hi
  have := h z.cps[i] (by simp [Array.getElem_mem])
  exact decide_eq_true (by omega)
theorem txtsOf_strs : ∀ zs : List Str, txtsOf (zs.map .str) = some zs
  | [] => rfl
  | z :: zs => by
    show (txtsOf (zs.map .str)).map (z :: ·) = _
    rw [txtsOf_strs zs]; rfl
theorem own_names {z : Str} (h : z ∈ ["link", "strike", "net", "sure", "why", "wide", "keeps", "struck", "left", "known", "new", "in"].map Str.ofString) : Nm z := by
  simp only [List.map_cons, List.map_nil, List.mem_cons, List.not_mem_nil, or_false] at h
  unfold Nm
  rcases h with h | h | h | h | h | h | h | h | h | h | h | h <;> subst h <;> decide +kernel
/-- a name of drawn letters -/
theorem letters_ok {k n : Nat} {d : D} {ρ : FK.Env} (hD : Dr n d) (hn : n ≤ 900000) (m : Nat) (hm : m ≤ 10) (hρ : ρ.length = 6) :
    ∃ (ws : List Nat) (d' : D), ws.length = m ∧ (∀ c ∈ ws, 97 ≤ c ∧ c ≤ 122) ∧ Dr (n + m) d' ∧ lcR [6] (gNm 6) sYes (b10e1 (sem pds (k + 2))) (rngL 0 m) [] (.ow d :: ρ) = .ok (.ow (.list (ws.map fun c => .str ⟨#[c]⟩))) (.ow d' :: ρ) := by
  have hl : ∃ x0 x1 x2 x3 x4 x5, ρ = [x0, x1, x2, x3, x4, x5] := by
    match ρ, hρ with
    | [x0, x1, x2, x3, x4, x5], _ => exact ⟨x0, x1, x2, x3, x4, x5, rfl⟩
  obtain ⟨x0, x1, x2, x3, x4, x5, rfl⟩ := hl
  have hz : (Str.ofString "etaoinshrdlcumwfgypbvkjxqz").cps.toList.all (fun c => decide (97 ≤ c ∧ c ≤ 122)) = true := by decide +kernel
  have hs : (Str.ofString "etaoinshrdlcumwfgypbvkjxqz").cps.size = 26 := by decide +kernel
  have hr : (rngL 0 m).length = m := by simp [rngL]
  obtain ⟨a', ρ', h1, ws, d', h2, h3, h4, h5, h6⟩ := lcR_inv (vs := [6]) (g := gNm 6) (ct := sYes) (fe := b10e1 (sem pds (k + 2)))
    (fun i a ρ => ∃ (ws : List Nat) (d' : D), ws.length = i ∧ (∀ c ∈ ws, 97 ≤ c ∧ c ≤ 122) ∧ (i ≤ m → Dr (n + i) d') ∧ a = (ws.map fun c => PyData.str ⟨#[c]⟩) ∧ ρ = [.ow d', x0, x1, x2, x3, x4, x5]) (ds := rngL 0 m) (acc := []) (ρ := [.ow d, x0, x1, x2, x3, x4, x5])
    ⟨[], d, rfl, (fun c hc => nomatch hc), fun _ => hD, rfl, rfl⟩ (by rw [hr, szL]; simp; omega) (fun i a ρ ⟨ws, d', h, _, _, e, _⟩ => by rw [e, List.length_map, h]; simp) (fun i e a ρ he ⟨ws, d', h2, h3, h4, h5, h6⟩ => by
      subst h5 h6
      have hi : i < m := by rw [← hr]; exact (List.getElem?_eq_some_iff.mp he).1
      obtain ⟨c, d2, k1, k2, k3⟩ := pickS_ok (k := k) (z := "etaoinshrdlcumwfgypbvkjxqz") (h4 (by omega)) (by omega) (by rw [hs]; omega) (by rw [hs]; omega)
      have kc := of_decide_eq_true (List.all_eq_true.mp hz c k1)
      refine ⟨_, by simp; rfl, .inr ⟨_, rfl, .fr (.str ⟨#[c]⟩), .str ⟨#[c]⟩, [.ow d2, x0, x1, x2, x3, x4, .fr e], by simp [b10e1, k3], rfl, ws ++ [c], d2, by simp [h2], fun x hx => ?_, fun _ => k2, by simp, by simp⟩⟩
      rcases List.mem_append.mp hx with w | w
      · exact h3 x w
      · have : x = c := by simpa using w
        subst this; exact kc)
  subst h5 h6
  rw [hr] at h2 h4
  exact ⟨ws, d', h2, h3, h4 (Nat.le_refl _), h1⟩
theorem cut5 (z : Str) : (cutS z none (some 5)).cps.toList = z.cps.toList.take 5 := by
  unfold cutS HT.sIx
  simp only [List.drop_zero]
  show (z.cps.toList.take (min 5 z.length - 0)) = _
  have e : z.length = z.cps.toList.length := by rw [Array.length_toList]; rfl
  rw [Nat.sub_zero, e]
  rcases Nat.le_total 5 z.cps.toList.length with h | h
  · rw [Nat.min_eq_left h]
  · rw [Nat.min_eq_right h, List.take_length, List.take_of_length_le h]
theorem nm_cut {z : Str} {c : Nat} (h : Nm z) (hc : 97 ≤ c ∧ c ≤ 122) : Nm (cutS z none (some 5) ++ ⟨#[c]⟩) := by
  have e : (cutS z none (some 5) ++ ⟨#[c]⟩ : Str).cps.toList = z.cps.toList.take 5 ++ [c] := by
    have := TL.tl_append (cutS z none (some 5)) ⟨#[c]⟩
    exact this.trans (by rw [show TL.tl (cutS z none (some 5)) = z.cps.toList.take 5 from cut5 z])
  refine ⟨?_, ?_, fun x hx => ?_⟩
  · rw [← Array.length_toList, e, List.length_append]; simp
  · rw [← Array.length_toList, e, List.length_append, List.length_take]; simp; omega
  · rw [e] at hx
    rcases List.mem_append.mp hx with w | w
    · exact h.2.2 x (List.mem_of_mem_take w)
    · have : x = c := by simpa using w
      subst this; exact hc
theorem len_of {z : Str} (h : Nm z) : z.length ≤ 6 := h.2.1
theorem eqv_str {x y : Str} : PyData.eqv (.str x) (.str y) = decide (x = y) := by
  show (x == y) = _
  simp [BEq.beq]
theorem okEq_strs {zs : List Str} (h : ∀ z ∈ zs, PyData.strOk z = true) : okEq (.list (zs.map .str)) = true := by
  have h1 : PyData.canLayAll0 (zs.map .str) = true := by
    induction zs with
    | nil => rfl
    | cons z zs ih =>
      show (PyData.canLay0 (.str z) && PyData.canLayAll0 (zs.map .str)) = true
      rw [show PyData.canLay0 (.str z) = PyData.strOk z by rw [PyData.canLay0], h z (by simp), ih fun x hx => h x (by simp [hx])]; rfl
  have h2 : PyData.depthAll (zs.map .str) = 0 := by
    clear h h1
    induction zs with
    | nil => rfl
    | cons z zs ih =>
      show max (PyData.depth (.str z)) (PyData.depthAll (zs.map .str)) = 0
      rw [ih]; rfl
  unfold okEq SeqAt.shaped
  rw [PyData.canLay0, h1, PyData.depth, h2]; rfl
theorem in_strs {z : Str} {f : List Str} (hz : PyData.strOk z = true) (hf : ∀ x ∈ f, PyData.strOk x = true) : inD (.str z) (.list (f.map .str)) = some (decide (z ∈ f)) := by
  show (if okEq (.str z) = true ∧ okEq (.list (f.map .str)) = true then some ((f.map PyData.str).any fun x => PyData.eqv x (.str z)) else none) = _
  rw [if_pos ⟨okEq_str hz, okEq_strs hf⟩, List.any_map]
  congr 1
  rw [Bool.eq_iff_iff]
  simp only [List.any_eq_true, Function.comp_apply, eqv_str, decide_eq_true_eq]
  exact ⟨fun ⟨x, h1, h2⟩ => by rw [← h2]; exact h1, fun h => ⟨z, h, rfl⟩⟩
theorem sok {z : Str} (h : Nm z) : PyData.strOk z = true := strOk_of fun c hc => by have := h.2.2 c hc; omega
/-- the names that are free yet -/
theorem fresh_ok {tb : Nat → SE} {x0 x1 x2 x4 : B} {f : List Str} {z : Str} (hf : ∀ x ∈ f, Nm x) (hl : f.length ≤ 20) (hz : Nm z) (h0 : pureB x0 = true ∨ isFr x0 = true) (h1 : pureB x1 = true ∨ isFr x1 = true) (h2 : pureB x2 = true ∨ isFr x2 = true) (h4 : pureB x4 = true ∨ isFr x4 = true) :
    ∃ (y : Str) (r : List D), (Nm y ∧ y ∉ f) ∧ lcR [6] (gNm 6) (b10c0 tb) (b10e0 tb) ((Str.ofString "abcdefghijklmnopqrstuvwxyz").cps.toList.map fun c => .str ⟨#[c]⟩) [] [x0, x1, x2, .ow (.list (f.map .str)), x4, .fr (.str z), .no]
      = .ok (.ow (.list (.str y :: r))) [x0, x1, x2, .ow (.list (f.map .str)), x4, .fr (.str z), .no] := by
  have hL : (Str.ofString "abcdefghijklmnopqrstuvwxyz").cps.toList.Nodup ∧ (Str.ofString "abcdefghijklmnopqrstuvwxyz").cps.toList.length = 26 ∧ (Str.ofString "abcdefghijklmnopqrstuvwxyz").cps.toList.all (fun c => decide (97 ≤ c ∧ c ≤ 122)) = true := by decide +kernel
  generalize (Str.ofString "abcdefghijklmnopqrstuvwxyz").cps.toList = ls at *
  obtain ⟨n1, n2, n3⟩ := hL
  let val : D → D := fun d => match d with
    | .str s => .str (cutS z none (some 5) ++ s)
    | _ => .none
  let p : D → Bool := fun d => match d with
    | .str s => !decide ((cutS z none (some 5) ++ s) ∈ f)
    | _ => false
  have key := lcR_pure (vs := [6]) (g := gNm 6) (ct := b10c0 tb) (fe := b10e0 tb) (fun d => [x0, x1, x2, .ow (.list (f.map .str)), x4, .fr (.str z), .fr d]) p val (ds := ls.map fun c => .str ⟨#[c]⟩) (acc := []) (ρ := [x0, x1, x2, .ow (.list (f.map .str)), x4, .fr (.str z), .no]) (fun d hd => by
    obtain ⟨c, hc, rfl⟩ := List.mem_map.mp hd
    have hc2 := of_decide_eq_true (List.all_eq_true.mp n3 c hc)
    have nn := nm_cut hz hc2
    have g1 : gSl (.str z) none (some 5) = some (.fr (.str (cutS z none (some 5)))) := if_pos (by rw [szL]; have := len_of hz; omega)
    have hcl : (cutS z none (some 5)).length ≤ 7 := by
      show (cutS z none (some 5)).cps.size ≤ 7
      rw [← Array.length_toList, cut5, List.length_take]; omega
    have g2 : gAdd (.str (cutS z none (some 5))) (.str ⟨#[c]⟩) = some (.fr (.str (cutS z none (some 5) ++ ⟨#[c]⟩))) := if_pos (by
      rw [szL]
      have : (⟨#[c]⟩ : Str).length = 1 := rfl
      omega)
    have g3 : gNotIn (.str (cutS z none (some 5) ++ ⟨#[c]⟩)) (.list (f.map .str)) = some (.fr (.bool (!decide ((cutS z none (some 5) ++ ⟨#[c]⟩) ∈ f)))) := by
      unfold gNotIn
      rw [in_strs (sok nn) fun x hx => sok (hf x hx)]; rfl
    refine ⟨by simp, ?_, fun _ => ⟨.fr (.str (cutS z none (some 5) ++ ⟨#[c]⟩)), by simp [b10e0, g1, g2], rfl⟩, by simp⟩
    have hk : okBack 3 (.list (f.map .str)) .no [x0, x1, x2, .ow (.list (f.map .str)), x4, .fr (.str z), .fr (.str ⟨#[c]⟩)] [x0, x1, x2, .fr (.list (f.map .str)), x4, .fr (.str z), .fr (.str ⟨#[c]⟩)] = true := okBack_of rfl rfl (by simp [h0, h1, h2, h4])
    simp [b10c0, g1, g2, g3, hk, p]) (by rw [List.length_map, n2, szL]; decide)
  rw [key]
  obtain ⟨y, m1, m2⟩ := pigeon f (ls.map fun c => cutS z none (some 5) ++ ⟨#[c]⟩) (by
    refine List.Pairwise.map _ (fun a b hab w => hab ?_) n1
    have e : ∀ x : Nat, (cutS z none (some 5) ++ ⟨#[x]⟩ : Str).cps.toList = z.cps.toList.take 5 ++ [x] := fun x => by
      have := TL.tl_append (cutS z none (some 5)) ⟨#[x]⟩
      exact this.trans (by rw [show TL.tl (cutS z none (some 5)) = z.cps.toList.take 5 from cut5 z])
    have w2 : (cutS z none (some 5) ++ ⟨#[a]⟩ : Str).cps.toList = (cutS z none (some 5) ++ ⟨#[b]⟩ : Str).cps.toList := congrArg (fun s : Str => s.cps.toList) w
    rw [e, e] at w2
    simpa using w2) (by rw [List.length_map, n2]; omega)
  obtain ⟨c, hc, rfl⟩ := List.mem_map.mp m1
  have hc2 := of_decide_eq_true (List.all_eq_true.mp n3 c hc)
  have hne : (ls.map fun c => PyData.str ⟨#[c]⟩).filter p ≠ [] := by
    intro w
    have := List.filter_eq_nil_iff.mp w (.str ⟨#[c]⟩) (List.mem_map_of_mem hc)
    exact this (by simp [p, m2])
  cases hfl : (ls.map fun c => PyData.str ⟨#[c]⟩).filter p with
  | nil => exact absurd hfl hne
  | cons e r =>
    have he : e ∈ (ls.map fun c => PyData.str ⟨#[c]⟩).filter p := by rw [hfl]; exact List.mem_cons_self
    obtain ⟨c', hc', rfl⟩ := List.mem_map.mp (List.mem_filter.mp he).1
    have hc3 := of_decide_eq_true (List.all_eq_true.mp n3 c' hc')
    have hp3 : (!decide ((cutS z none (some 5) ++ ⟨#[c']⟩) ∈ f)) = true := (List.mem_filter.mp he).2
    exact ⟨cutS z none (some 5) ++ ⟨#[c']⟩, r.map val, ⟨nm_cut hz hc3, by simpa using hp3⟩, rfl⟩
theorem own_strs : (["link", "strike", "net", "sure", "why", "wide", "keeps", "struck", "left", "known", "new", "in"].map Str.ofString).map PyData.str = [.str "link", .str "strike", .str "net", .str "sure", .str "why", .str "wide", .str "keeps", .str "struck", .str "left", .str "known", .str "new", .str "in"] := rfl
theorem nm_of_letters {ws : List Nat} (h : 1 ≤ ws.length ∧ ws.length ≤ 6) (hc : ∀ c ∈ ws, 97 ≤ c ∧ c ≤ 122) : Nm (Txt.join (Str.ofString "") (ws.map fun c => ⟨#[c]⟩)) := by
  refine ⟨?_, ?_, fun c hx => ?_⟩
  · rw [← Array.length_toList, join_signs]; omega
  · rw [← Array.length_toList, join_signs]; omega
  · rw [join_signs] at hx; exact hc c hx
theorem rng1_ok {i : Int} (h : 0 ≤ i) (h2 : i < 1000000) : gRng1 [.int i] = some (rngL 0 i.toNat) := by
  refine if_pos ?_
  unfold rgOk
  exact @decide_eq_true _ (Classical.propDecidable _) (by omega)
theorem join_ok {ws : List Nat} (h : ws.length ≤ 1000) : gJoin (.str (Str.ofString "")) (.list (ws.map fun c => .str ⟨#[c]⟩)) = some (.fr (.str (Txt.join (Str.ofString "") (ws.map fun c => ⟨#[c]⟩)))) := by
  have e : (ws.map fun c => PyData.str ⟨#[c]⟩) = (ws.map fun c => (⟨#[c]⟩ : Str)).map PyData.str := by rw [List.map_map]; rfl
  have h2 : (ws.map fun c => (⟨#[c]⟩ : Str)).map Str.length = ws.map fun _ => 1 := by rw [List.map_map]; rfl
  have h3 : ((ws.map fun c => (⟨#[c]⟩ : Str)).map Str.length).sum = ws.length := by
    rw [h2]
    clear h h2 e
    induction ws with
    | nil => rfl
    | cons c ws ih => simp only [List.map_cons, List.sum_cons, List.length_cons, ih]; omega
  show joinD _ _ = _
  unfold joinD
  rw [e, txtsOf_strs]
  refine if_pos ?_
  rw [h3, List.length_map]
  have : (Str.ofString "").length = 0 := by decide +kernel
  rw [this, Nat.mul_zero]; omega
/-- a turn of the loop -/
theorem spot_turn {k n m : Nat} {d : D} {f : List Str} {xs : List D} {s5 : B} (hD : Dr n d) (hn : n ≤ 800000) (hf : ∀ x ∈ f, Nm x) (hl : f.length ≤ 12) (j : Int) (hx : ∀ x ∈ xs, ∃ z, Nm z ∧ x = .str z) (hx0 : xs ≠ []) (hxl : xs.length < 1000) :
    ∃ (z : Str) (d' : D), (Nm z ∧ z ∉ f) ∧ Dr (n + 9) d' ∧ b10f0 (sem pds (k + 2)) [.ow d, .fr (.int m), .fr (.list xs), .ow (.list (f.map .str)), .fr (.int j), s5, .no]
   = .nx [.ow d', .fr (.int m), .fr (.list xs), .ow (.list ((f ++ [z]).map .str)), .fr (.int j), .fr (.str z), .no] := by
  obtain ⟨x, d1, a1, a2, a3⟩ := pick_ok (k := k) (xs := xs) hD (by omega) hx0 (by omega)
  obtain ⟨z0, N0, rfl⟩ := hx x a1
  obtain ⟨r, d2, c1, c2, c3, c4⟩ := next_ok (k := k + 1) (s := 3) a2 (by omega) (by decide) (by decide)
  -- the rest, of any name
  have rest : ∀ (z : Str) (d2 : D), Nm z → Dr (n + 9) d2 → ∃ y : Str, (Nm y ∧ y ∉ f) ∧ (sSeq (sIfS (sLendT 3 (sTest (sBin gIn (sVar 5) (sVar 3)))) (sSeq (sSet false 5 (sBin gIx (sLc [6] (iSeq (sC (.str "abcdefghijklmnopqrstuvwxyz"))) (gNm 6) (b10c0 (sem pds (k + 2))) (b10e0 (sem pds (k + 2)))) (sC (.int 0))))
 sNext) sNext)
 (sSeq (sAppend 3 (sVar 5))
 sNext)) [.ow d2, .fr (.int m), .fr (.list xs), .ow (.list (f.map .str)), .fr (.int j), .fr (.str z), .no]
   = .nx [.ow d2, .fr (.int m), .fr (.list xs), .ow (.list ((f ++ [y]).map .str)), .fr (.int j), .fr (.str y), .no] := by
    intro z d2 hz h2
    have hp := h2.pure
    have g1 : gIn (.str z) (.list (f.map .str)) = some (.fr (.bool (decide (z ∈ f)))) := by
      unfold gIn
      rw [in_strs (sok hz) fun x hx => sok (hf x hx)]; rfl
    have hk : okBack 3 (.list (f.map .str)) .no [.ow d2, .fr (.int m), .fr (.list xs), .ow (.list (f.map .str)), .fr (.int j), .fr (.str z), .no] [.ow d2, .fr (.int m), .fr (.list xs), .fr (.list (f.map .str)), .fr (.int j), .fr (.str z), .no] = true := okBack_of rfl rfl (by simp [hp])
    have hlt : f.length < sizeLine := by rw [szL]; omega
    by_cases hin : z ∈ f
    · obtain ⟨y, r, k1, k2⟩ := fresh_ok (tb := sem pds (k + 2)) (x0 := .ow d2) (x1 := .fr (.int m)) (x2 := .fr (.list xs)) (x4 := .fr (.int j)) hf (by omega) hz (.inl hp) (.inr rfl) (.inr rfl) (.inr rfl)
      have hit : itD (.str (Str.ofString "abcdefghijklmnopqrstuvwxyz")) = some ((Str.ofString "abcdefghijklmnopqrstuvwxyz").cps.toList.map fun c => .str ⟨#[c]⟩) := rfl
      refine ⟨y, k1, ?_⟩
      simp [g1, hk, hin, hit, k2, hlt]
    · refine ⟨z, ⟨hz, hin⟩, ?_⟩
      simp [g1, hk, hin, hlt]
  by_cases hr : 0 < r
  · obtain ⟨r2, d3, q1, q2, q3, q4⟩ := next_ok (k := k + 1) (s := 6) c1 (by omega) (by decide) (by decide)
    have hm : gRng1 [.int (1 + r2)] = some (rngL 0 (1 + r2).toNat) := rng1_ok (by omega) (by omega)
    obtain ⟨ws, d4, l1, l2, l3, l4⟩ := letters_ok (k := k) q1 (by omega) (1 + r2).toNat (by omega) (ρ := [.fr (.int m), .fr (.list xs), .ow (.list (f.map .str)), .fr (.int j), .fr (.str z0), .no]) rfl
    obtain ⟨y, k1, k2⟩ := rest (Txt.join (Str.ofString "") (ws.map fun c => ⟨#[c]⟩)) d4 (nm_of_letters (by omega) l2) (l3.mono (by omega))
    refine ⟨y, d4, k1, l3.mono (by omega), ?_⟩
    simp [b10f0, a3, c4, hr, q4, hm, l4, join_ok (ws := ws) (by omega), k2]
  · obtain ⟨y, k1, k2⟩ := rest z0 d2 N0 (c1.mono (by omega))
    refine ⟨y, d2, k1, c1.mono (by omega), ?_⟩
    simp [b10f0, a3, c4, hr, k2]
theorem strs_of_mem {L : List D} {P : Str → Prop} (h : ∀ d ∈ L, ∃ z, P z ∧ d = .str z) : ∃ zs : List Str, L = zs.map .str ∧ ∀ z ∈ zs, P z := by
  induction L with
  | nil => exact ⟨[], rfl, fun z hz => nomatch hz⟩
  | cons d L ih =>
    obtain ⟨z, h1, rfl⟩ := h d (by simp)
    obtain ⟨zs, h2, h3⟩ := ih fun e he => h e (by simp [he])
    refine ⟨z :: zs, by rw [h2]; rfl, fun x hx => ?_⟩
    rcases List.mem_cons.mp hx with w | w
    · subst w; exact h1
    · exact h3 x w
theorem spots_ok {k n m : Nat} {d : D} (hD : Dr n d) (hn : n ≤ 700000) (hm : m ≤ 12) :
    ∃ (zs : List Str) (d' : D), zs.length = m ∧ ((∀ z ∈ zs, Nm z) ∧ zs.Pairwise slt) ∧ Dr (n + 9 * m) d' ∧ sem pds (k + 3) 10 [.ow d, .fr (.int m)] = .ok (.ow (.list (zs.map .str))) [.ow d', .fr (.int m)] := by
  have hr : (rngL 0 m).length = m := by simp [rngL]
  have hg : gRng1 [.int (m : Nat)] = some (rngL 0 m) := by rw [rng1_ok (by omega) (by omega)]; rfl
  have hx : ∀ x ∈ [PyData.str "link", .str "strike", .str "net", .str "sure", .str "why", .str "wide", .str "keeps", .str "struck", .str "left", .str "known", .str "new", .str "in"], ∃ z, Nm z ∧ x = .str z := fun x hx => by
    rw [← own_strs] at hx
    obtain ⟨z, hz, rfl⟩ := List.mem_map.mp hx
    exact ⟨z, own_names hz, rfl⟩
  have hgl : gList [PyData.str "link", .str "strike", .str "net", .str "sure", .str "why", .str "wide", .str "keeps", .str "struck", .str "left", .str "known", .str "new", .str "in"] = some (.ow (.list [PyData.str "link", .str "strike", .str "net", .str "sure", .str "why", .str "wide", .str "keeps", .str "struck", .str "left", .str "known", .str "new", .str "in"])) := gList_of (by decide)
  have hx0 : [PyData.str "link", .str "strike", .str "net", .str "sure", .str "why", .str "wide", .str "keeps", .str "struck", .str "left", .str "known", .str "new", .str "in"] ≠ [] := fun w => nomatch w
  have hxl : [PyData.str "link", .str "strike", .str "net", .str "sure", .str "why", .str "wide", .str "keeps", .str "struck", .str "left", .str "known", .str "new", .str "in"].length < 1000 := by decide
  rw [e10, b10]
  generalize hxs : [PyData.str "link", .str "strike", .str "net", .str "sure", .str "why", .str "wide", .str "keeps", .str "struck", .str "left", .str "known", .str "new", .str "in"] = xs at *
  obtain ⟨ρ', f1, f, d', s4, s5, f2, f3, f4, f5⟩ := forR_inv (g := gNm 4) (b := b10f0 (sem pds (k + 2))) (fun i ρ => ∃ (f : List Str) (d' : D) (s4 s5 : B), f.length = i ∧ ((∀ z ∈ f, Nm z) ∧ f.Nodup) ∧ ((i ≤ m → Dr (n + 9 * i) d') ∧ (isFr s4 = true ∨ s4 = .no) ∧ (isFr s5 = true ∨ s5 = .no)) ∧
    ρ = [.ow d', .fr (.int m), .fr (.list xs), .ow (.list (f.map .str)), s4, s5, .no]) (ds := rngL 0 m)
    (ρ := [.ow d, .fr (.int m), .fr (.list xs), .ow (.list []), .no, .no, .no]) ⟨[], d, .no, .no, rfl, ⟨(fun z hz => nomatch hz), List.nodup_nil⟩, ⟨fun _ => hD, .inr rfl, .inr rfl⟩, rfl⟩
    (fun i e ρ he ⟨f, d', s4, s5, h2, h3, h4, h5⟩ => by
      subst h5
      have hi : i < m := by rw [← hr]; exact (List.getElem?_eq_some_iff.mp he).1
      have ee : e = .int (0 + (i : Int)) := by
        unfold rngL at he
        rw [List.getElem?_map, List.getElem?_range hi] at he
        exact (Option.some.inj he).symm
      subst ee
      obtain ⟨z, d2, k1, k2, k3⟩ := spot_turn (k := k) (m := m) (s5 := s5) (h4.1 (by omega)) (by omega) h3.1 (by omega) (0 + (i : Int)) hx hx0 hxl
      refine ⟨_, by simp, _, .inl k3, f ++ [z], d2, _, _, by simp [h2], ⟨fun x hx => ?_, ?_⟩, ⟨fun _ => k2.mono (by omega), .inl rfl, .inl rfl⟩, rfl⟩
      · rcases List.mem_append.mp hx with w | w
        · exact h3.1 x w
        · have : x = z := by simpa using w
          subst this; exact k1.1
      · rw [List.nodup_append]
        exact ⟨h3.2, by simp, fun a ha b hb e => by
          have : b = z := by simpa using hb
          subst this; subst e; exact k1.2 ha⟩)
  subst f5
  rw [hr] at f2 f4
  have hsrt := gSorted_strs (zs := f) (fun z hz => sok (f3.1 z hz)) (by rw [szL]; omega)
  rw [sort_map] at hsrt
  have g3 := rk_str.sorted f3.2
  have pm := List.mergeSort_perm f (leB PyData.str)
  generalize f.mergeSort (leB PyData.str) = zs at *
  have g2 : ∀ z ∈ zs, Nm z := fun z hz => f3.1 z (pm.mem_iff.mp hz)
  have gl : zs.length = m := by rw [pm.length_eq]; exact f2
  have hpl : pureL (zs.map .str) = true := pureL_all fun d hd => by
    obtain ⟨z, _, rfl⟩ := List.mem_map.mp hd
    rfl
  have hD' := f4.1 (Nat.le_refl _)
  have hp := hD'.pure
  have c4 : pureB s4 = true ∨ isFr s4 = true := f4.2.1.elim .inr fun w => by subst w; exact .inl rfl
  have c5 : pureB s5 = true ∨ isFr s5 = true := f4.2.2.elim .inr fun w => by subst w; exact .inl rfl
  have hk : okBack 3 (.list (f.map .str)) (.ow (.list (zs.map .str))) [.ow d', .fr (.int m), .fr (.list xs), .ow (.list (f.map .str)), s4, s5, .no] [.ow d', .fr (.int m), .fr (.list xs), .fr (.list (f.map .str)), s4, s5, .no] = true := okBack_of hpl rfl (by simp [hp, c4, c5])
  refine ⟨zs, d', gl, ⟨g2, g3⟩, hD', ?_⟩
  simp [hxs, hgl, gList_of, hg, f1, hsrt, hk]
theorem cutD_from {ds : List D} (j : Nat) : FK.cutD ds (some (j : Int)) none = ds.drop j := by
  unfold FK.cutD
  rw [HT.sIx_none, HT.sIx_nat]
  rcases Nat.le_total j ds.length with h | h
  · rw [Nat.min_eq_left h, List.take_of_length_le (by rw [List.length_drop]; exact Nat.le_refl _)]
  · rw [Nat.min_eq_right h, List.drop_length, List.drop_of_length_le h, List.take_nil]
def Pr (p : D) : Prop := ∃ x y, (Nm x ∧ slt x y) ∧ Nm y ∧ p = .tuple [.str x, .str y]
theorem pair_turn {tb : Nat → SE} {d : D} {zs : List D} {E : List D} {w : Int} {s6 one : D} {x6 : B} (i : Nat) (hE : E.length ≤ 200) (hz : zs.length ≤ 12) :
    b11f0 tb [.ow d, .fr (.list zs), .fr (.list E), .fr (.int w), .fr (.int i), .fr one, x6, .no, .no, .no] = .nx [.ow d, .fr (.list zs), .fr (.list (E ++ (zs.drop (i + 1)).map fun o => .tuple [one, o])), .fr (.int w), .fr (.int i), .fr one, x6, .no, .no, .no] := by
  have g1 : gSl (.list zs) (some ((i : Int) + 1)) none = some (.ow (.list (zs.drop (i + 1)))) := by
    show some (B.ow (.list (FK.cutD zs (some ((i : Int) + 1)) none))) = _
    rw [show ((i : Int) + 1) = ((i + 1 : Nat) : Int) by omega, cutD_from]
  have g2 := lcR_pure (vs := [7]) (g := gNm 7) (ct := sYes) (fe := b11e2 tb) (fun o => [.ow d, .fr (.list zs), .fr (.list E), .fr (.int w), .fr (.int i), .fr one, x6, .fr o, .no, .no]) (fun _ => true) (fun o => .tuple [one, o]) (ds := zs.drop (i + 1)) (acc := []) (ρ := [.ow d, .fr (.list zs), .fr (.list E), .fr (.int w), .fr (.int i), .fr one, x6, .no, .no, .no]) (fun o _ => ⟨by simp, rfl, fun _ => ⟨.fr (.tuple [one, o]), by simp [b11e2, gTuple_of], rfl⟩, by simp⟩) (by rw [szL, List.length_drop]; simp only [List.length_nil]; omega)
  rw [List.filter_eq_self.mpr (fun _ _ => rfl), List.nil_append] at g2
  have g3 : gAdd (.list E) (.list ((zs.drop (i + 1)).map fun o => .tuple [one, o])) = some (.ow (.list (E ++ (zs.drop (i + 1)).map fun o => .tuple [one, o]))) := if_pos (by rw [szL, List.length_map, List.length_drop]; omega)
  have g4 : itD (.list (zs.drop (i + 1))) = some (zs.drop (i + 1)) := rfl
  simp [-List.map_drop, b11f0, g1, g2, g3, g4]
theorem enum_get {zs : List D} {i : Nat} {e : D} (h : (pairsAt (rngL 0 zs.length) zs)[i]? = some e) : ∃ z, zs[i]? = some z ∧ e = .tuple [.int (i : Int), z] := by
  unfold pairsAt at h
  rw [List.getElem?_zipWith] at h
  cases hz : zs[i]? with
  | none => rw [hz] at h; simp at h
  | some z =>
    have hi := (List.getElem?_eq_some_iff.mp hz).1
    unfold rngL at h
    rw [hz, List.getElem?_map, List.getElem?_range hi] at h
    refine ⟨z, rfl, ?_⟩
    have h : some (PyData.tuple [.int (0 + (i : Int)), z]) = some e := h
    rw [Int.zero_add] at h
    exact (Option.some.inj h).symm
theorem pw_drop {α : Type} {lt : α → α → Prop} {zs : List α} (h : zs.Pairwise lt) {i : Nat} (hi : i < zs.length) {y : α} (hy : y ∈ zs.drop (i + 1)) : lt zs[i] y := by
  obtain ⟨j, hj, rfl⟩ := List.mem_iff_getElem.mp hy
  rw [List.length_drop] at hj
  rw [List.getElem_drop]
  exact List.pairwise_iff_getElem.mp h i (i + 1 + j) hi (by omega) (by omega)
theorem pairs_loop {tb : Nat → SE} {d : D} {zs : List Str} {w : Int} (hz : zs.length ≤ 12) (hN : (∀ z ∈ zs, Nm z) ∧ zs.Pairwise slt) :
    ∃ (E : List D) (s4 s5 : B), (∀ p ∈ E, Pr p) ∧ E.length ≤ 200 ∧ (∀ (a b : Nat) (x y : Str), a < b → zs[a]? = some x → zs[b]? = some y → PyData.tuple [.str x, .str y] ∈ E) ∧
    forR (gTp 2 (gsCons (gNm 4) (gsCons (gNm 5) gsNil))) (b11f0 tb) (pairsAt (rngL 0 (zs.map PyData.str).length) (zs.map .str)) [.ow d, .fr (.list (zs.map .str)), .fr (.list []), .fr (.int w), .no, .no, .no, .no, .no, .no] = .nx [.ow d, .fr (.list (zs.map .str)), .fr (.list E), .fr (.int w), s4, s5, .no, .no, .no, .no] := by
  have hlen : (pairsAt (rngL 0 (zs.map PyData.str).length) (zs.map PyData.str)).length = zs.length := by unfold pairsAt rngL; simp
  obtain ⟨ρ', f1, E, s4, s5, e1, e2, e3, e4⟩ := forR_inv (g := gTp 2 (gsCons (gNm 4) (gsCons (gNm 5) gsNil))) (b := b11f0 tb) (fun i ρ => ∃ (E : List D) (s4 s5 : B), (∀ p ∈ E, Pr p) ∧ (i ≤ 12 → E.length ≤ 12 * i) ∧ (∀ (a b : Nat) (x y : Str), a < i → a < b → zs[a]? = some x → zs[b]? = some y → PyData.tuple [.str x, .str y] ∈ E) ∧
    ρ = [.ow d, .fr (.list (zs.map .str)), .fr (.list E), .fr (.int w), s4, s5, .no, .no, .no, .no]) (ds := pairsAt (rngL 0 (zs.map PyData.str).length) (zs.map .str)) (ρ := [.ow d, .fr (.list (zs.map .str)), .fr (.list []), .fr (.int w), .no, .no, .no, .no, .no, .no])
    ⟨[], .no, .no, (fun p hp => nomatch hp), (fun _ => Nat.zero_le _), (fun a b x y h => by omega), rfl⟩
    (fun i e ρ he ⟨E, s4, s5, h1, h2, h3, h4⟩ => by
      subst h4
      have hi : i < zs.length := by rw [← hlen]; exact (List.getElem?_eq_some_iff.mp he).1
      obtain ⟨z, hz1, rfl⟩ := enum_get he
      rw [List.getElem?_map] at hz1
      have hzi : zs[i]? = some zs[i] := List.getElem?_eq_getElem hi
      rw [hzi] at hz1
      cases hz1
      have h2' := h2 (by omega)
      refine ⟨_, by simp, _, .inl (pair_turn (tb := tb) (d := d) (zs := zs.map .str) (E := E) (w := w) (s6 := .none) (one := .str zs[i]) (x6 := .no) i (by omega) (by rw [List.length_map]; exact hz)), _, _, _, fun p hp => ?_, fun hi2 => ?_, fun a b x y ha hab hx hy => ?_, rfl⟩
      · rcases List.mem_append.mp hp with q | q
        · exact h1 p q
        · obtain ⟨o, ho, rfl⟩ := List.mem_map.mp q
          rw [← List.map_drop] at ho
          obtain ⟨y, hy, rfl⟩ := List.mem_map.mp ho
          exact ⟨zs[i], y, ⟨hN.1 _ (List.getElem_mem hi), pw_drop hN.2 hi hy⟩, hN.1 _ (List.mem_of_mem_drop hy), rfl⟩
      · rw [List.length_append, List.length_map, List.length_drop, List.length_map]; omega
      · rcases Nat.lt_or_ge a i with q | q
        · exact List.mem_append_left _ (h3 a b x y q hab hx hy)
        · have : a = i := by omega
          subst this
          rw [hzi] at hx
          cases hx
          refine List.mem_append_right _ (List.mem_map.mpr ⟨.str y, ?_, rfl⟩)
          rw [← List.map_drop]
          refine List.mem_map.mpr ⟨y, ?_, rfl⟩
          have hb := (List.getElem?_eq_some_iff.mp hy)
          obtain ⟨hb1, hb2⟩ := hb
          rw [List.mem_iff_getElem]
          exact ⟨b - (a + 1), by rw [List.length_drop]; omega, by rw [List.getElem_drop, ← hb2]; congr 1; omega⟩)
  rw [hlen] at e2 e3
  exact ⟨E, s4, s5, e1, by have := e2 hz; omega, fun a b x y hab hx hy => e3 a b x y (List.getElem?_eq_some_iff.mp hx).1 hab hx hy, by rw [f1, e4]⟩
theorem Pr.okEq {p : D} (h : Pr p) : okEq p = true := by
  obtain ⟨x, y, hx, hy, rfl⟩ := h
  unfold FK.okEq SeqAt.shaped PyData.canLay0 PyData.canLayAll0 PyData.canLayAll0 PyData.canLayAll0 PyData.canLay0
  rw [sok hx.1, sok hy]
  rfl
theorem gLz_ok {xs ys : List D} (hx : xs.length ≤ 1000) : gLz [.list xs, .list ys] = some (.ow (.list (pairsAt xs ys))) := by
  refine if_pos ?_
  unfold pairsAt
  rw [List.length_zipWith, szL]; omega
theorem pairs_ok {k n : Nat} {d : D} {zs : List Str} (hD : Dr n d) (hn : n ≤ 600000) (h2 : 2 ≤ zs.length) (hz : zs.length ≤ 12) (hN : (∀ z ∈ zs, Nm z) ∧ zs.Pairwise slt) :
    ∃ (E : List D) (b : B) (d' : D), frz b = some (.list E) ∧ E ≠ [] ∧ E.length ≤ 2000 ∧ (∀ p ∈ E, Pr p) ∧ Dr (n + 4) d' ∧ sem pds (k + 3) 11 [.ow d, .fr (.list (zs.map .str))] = .ok b [.ow d', .fr (.list (zs.map .str))] := by
  obtain ⟨r, d1, a1, a2, a3, a4⟩ := next_ok (k := k + 1) (s := 4) hD (by omega) (by decide) (by decide)
  obtain ⟨E, s4, s5, e1, e2, e3, e4⟩ := pairs_loop (tb := sem pds (k + 2)) (d := d1) (w := r) hz hN
  have hne : E ≠ [] := fun w => by
    have := e3 0 1 zs[0] zs[1] (by omega) (List.getElem?_eq_getElem (by omega)) (List.getElem?_eq_getElem (by omega))
    rw [w] at this
    exact nomatch this
  have hen : gEnum [.list (zs.map .str)] = some (pairsAt (rngL 0 (zs.map PyData.str).length) (zs.map .str)) := rfl
  have hgl : gList [] = some (.ow (.list [])) := gList_of (by simp)
  rw [List.length_map] at e4 hen
  have hgn : gLen [.list (zs.map .str)] = some (.fr (.int (zs.length : Nat))) := by rw [gLen_list, List.length_map]
  rw [e11]
  by_cases hc : (zs.length : Int) = 2
  · refine ⟨E, .fr (.list E), d1, rfl, hne, by omega, e1, a1.mono (by omega), ?_⟩
    by_cases h0 : r = 0
    · subst h0
      simp [b11, hgl, a4, hen, e4]
    · simp [b11, hgl, a4, hen, e4, h0, hgn, hc]
  · have hr : r = 0 ∨ r = 1 ∨ r = 2 ∨ r = 3 := by omega
    rcases hr with rfl | rfl | rfl | rfl
    · refine ⟨E, .fr (.list E), d1, rfl, hne, by omega, e1, a1.mono (by omega), ?_⟩
      simp [b11, hgl, a4, hen, e4]
    · have hg : gRng1 [.int 3] = some (rngL 0 3) := rng1_ok (by omega) (by omega)
      obtain ⟨acc, ρ', c1, d2, c2, c3, c4, c5⟩ := lcR_inv (vs := [8]) (g := gNm 8) (ct := sYes) (fe := b11e1 (sem pds (k + 2))) (fun i a ρ => ∃ (d' : D), a.length = i ∧ (∀ p ∈ a, Pr p) ∧ (i ≤ 3 → Dr (n + 1 + i) d') ∧ ρ = [.ow d', .fr (.list (zs.map .str)), .fr (.list E), .fr (.int 1), s4, s5, .no, .no, .no, .no])
        (ds := rngL 0 3) (acc := []) (ρ := [.ow d1, .fr (.list (zs.map .str)), .fr (.list E), .fr (.int 1), s4, s5, .no, .no, .no, .no]) ⟨d1, rfl, (fun p hp => nomatch hp), fun _ => a1, rfl⟩ (by rw [szL]; decide) (fun i a ρ ⟨_, h, _⟩ => by rw [h]; simp) (fun i e a ρ he ⟨d', h1, h2, h3, h4⟩ => by
          subst h4
          have hi : i < 3 := (List.getElem?_eq_some_iff.mp he).1
          obtain ⟨x, d2, k1, k2, k3⟩ := pick_ok (k := k) (xs := E) (h3 (by omega)) (by omega) hne (by omega)
          refine ⟨_, by simp; rfl, .inr ⟨_, rfl, .fr x, x, [.ow d2, .fr (.list (zs.map .str)), .fr (.list E), .fr (.int 1), s4, s5, .no, .no, .fr e, .no], by simp [b11e1, k3], rfl, d2, by simp [h1], fun p hp => ?_, fun _ => k2, by simp⟩⟩
          rcases List.mem_append.mp hp with q | q
          · exact h2 p q
          · have : p = x := by simpa using q
            subst this; exact e1 p k1)
      subst c5
      have c2' : acc.length = 3 := c2
      refine ⟨acc, .ow (.list acc), d2, rfl, (fun w => by rw [w] at c2'; cases c2'), by omega, c3, c4 (Nat.le_refl _), ?_⟩
      simp [b11, hgl, a4, hen, e4, hgn, hc, hg, c1]
    · obtain ⟨p1, d2, u1, u2, u3⟩ := pick_ok (k := k) (xs := zs.map .str) a1 (by omega) (fun w => by rw [List.map_eq_nil_iff] at w; rw [w] at h2; simp at h2) (by rw [List.length_map]; omega)
      obtain ⟨p2, d3, v1, v2, v3⟩ := pick_ok (k := k) (xs := zs.map .str) u2 (by omega) (fun w => by rw [List.map_eq_nil_iff] at w; rw [w] at h2; simp at h2) (by rw [List.length_map]; omega)
      obtain ⟨z1, hz1, rfl⟩ := List.mem_map.mp u1
      obtain ⟨z2, hz2, rfl⟩ := List.mem_map.mp v1
      let q : D → Bool := fun p => match p with
        | .tuple [.str x, .str y] => decide (x ∈ [z1, z2]) || decide (y ∈ [z1, z2])
        | _ => false
      have hP : ∀ x ∈ [z1, z2], PyData.strOk x = true := fun x hx => by
        rcases List.mem_cons.mp hx with w | w
        · subst w; exact sok (hN.1 _ hz1)
        · have : x = z2 := by simpa using w
          subst this; exact sok (hN.1 _ hz2)
      have key := lcR_pure (vs := [9]) (g := gNm 9) (ct := b11c0 (sem pds (k + 2))) (fe := b11e0 (sem pds (k + 2))) (fun p => [.ow d3, .fr (.list (zs.map .str)), .fr (.list E), .fr (.int 2), s4, s5, .fr (.list [.str z1, .str z2]), .no, .no, .fr p]) q id (ds := E) (acc := [])
        (ρ := [.ow d3, .fr (.list (zs.map .str)), .fr (.list E), .fr (.int 2), s4, s5, .fr (.list [.str z1, .str z2]), .no, .no, .no]) (fun p hp => by
          obtain ⟨x, y, ⟨hx, _⟩, hy, rfl⟩ := e1 p hp
          have i1 : gIn (.str x) (.list [.str z1, .str z2]) = some (.fr (.bool (decide (x ∈ [z1, z2])))) := by
            unfold gIn
            rw [show [PyData.str z1, .str z2] = [z1, z2].map PyData.str from rfl, in_strs (sok hx) hP]; rfl
          have i2 : gIn (.str y) (.list [.str z1, .str z2]) = some (.fr (.bool (decide (y ∈ [z1, z2])))) := by
            unfold gIn
            rw [show [PyData.str z1, .str z2] = [z1, z2].map PyData.str from rfl, in_strs (sok hy) hP]; rfl
          refine ⟨by simp, ?_, fun _ => ⟨.fr (.tuple [.str x, .str y]), by simp [b11e0], rfl⟩, by simp⟩
          show _ = Rs.ok (decide (x ∈ [z1, z2]) || decide (y ∈ [z1, z2])) _
          cases hb : decide (x ∈ [z1, z2]) <;> rw [hb] at i1 <;> simp [-List.mem_cons, b11c0, i1, i2]) (by rw [szL]; simp only [List.length_nil]; omega)
      rw [List.nil_append, List.map_id] at key
      have hq : ∃ p ∈ E, q p = true := by
        obtain ⟨a, ha, hza⟩ := List.mem_iff_getElem.mp hz1
        have ga : zs[a]? = some z1 := by rw [List.getElem?_eq_getElem ha, hza]
        by_cases h0 : a = 0
        · subst h0
          exact ⟨_, e3 0 1 z1 zs[1] (by omega) ga (List.getElem?_eq_getElem (by omega)), by simp [q]⟩
        · exact ⟨_, e3 0 a zs[0] z1 (by omega) (List.getElem?_eq_getElem (by omega)) ga, by simp [q]⟩
      obtain ⟨p, hp1, hp2⟩ := hq
      refine ⟨E.filter q, .ow (.list (E.filter q)), d3, rfl, (fun w => ?_), Nat.le_trans (List.length_filter_le _ _) (by omega), (fun p hp => e1 p (List.mem_filter.mp hp).1), v2.mono (by omega), ?_⟩
      · have : p ∈ E.filter q := List.mem_filter.mpr ⟨hp1, hp2⟩
        rw [w] at this
        exact nomatch this
      · have hit : itD (.list E) = some E := rfl
        simp [b11, hgl, a4, hen, e4, hgn, hc, u3, v3, gList_of, hit, key]
    · have g1 : gSl (.list (zs.map .str)) (some 1) none = some (.ow (.list ((zs.map PyData.str).drop 1))) := by
        show some (B.ow (.list (FK.cutD (zs.map PyData.str) (some ((1 : Nat) : Int)) none))) = _
        rw [cutD_from]
      have g2 := gLz_ok (xs := zs.map PyData.str) (ys := (zs.map PyData.str).drop 1) (by rw [List.length_map]; omega)
      have g3 : (pairsAt (zs.map PyData.str) ((zs.map PyData.str).drop 1)).length = zs.length - 1 := by
        unfold pairsAt
        rw [List.length_zipWith, List.length_drop, List.length_map]; omega
      refine ⟨pairsAt (zs.map PyData.str) ((zs.map PyData.str).drop 1), .ow (.list (pairsAt (zs.map PyData.str) ((zs.map PyData.str).drop 1))), d1, rfl, (fun w => by rw [w] at g3; simp at g3; omega), by omega, fun p hp => ?_, a1.mono (by omega), by simp [-List.map_drop, -List.drop_one, b11, hgl, a4, hen, e4, hgn, hc, g1, g2]⟩
      unfold pairsAt at hp
      rw [List.mem_iff_getElem?] at hp
      obtain ⟨i, hp⟩ := hp
      rw [List.getElem?_zipWith] at hp
      cases q1 : (zs.map PyData.str)[i]? with
      | none => rw [q1] at hp; simp at hp
      | some x =>
        cases q2 : ((zs.map PyData.str).drop 1)[i]? with
        | none => rw [q1, q2] at hp; simp at hp
        | some y =>
          rw [q1, q2] at hp
          have hp : some (PyData.tuple [x, y]) = some p := hp
          cases hp
          rw [List.getElem?_map] at q1
          rw [← List.map_drop, List.getElem?_map] at q2
          obtain ⟨x', hx', rfl⟩ := Option.map_eq_some_iff.mp q1
          obtain ⟨y', hy', rfl⟩ := Option.map_eq_some_iff.mp q2
          obtain ⟨hi, ex⟩ := List.getElem?_eq_some_iff.mp hx'
          have ey : zs[1 + i]? = some y' := by rw [← List.getElem?_drop]; exact hy'
          have my : y' ∈ zs.drop (i + 1) := by
            rw [show i + 1 = 1 + i by omega]
            refine List.mem_iff_getElem?.mpr ⟨0, ?_⟩
            rw [List.getElem?_drop]; exact ey
          refine ⟨x', y', ⟨hN.1 _ (List.mem_of_getElem? hx'), ?_⟩, hN.1 _ (List.mem_of_mem_drop my), rfl⟩
          rw [← ex]
          exact pw_drop hN.2 hi my
/-- a link as it should be -/
def LkG (l : Lnk) : Prop := 0 ≤ l.c ∧ l.c ≤ 1000000 ∧ 0 ≤ l.m ∧ l.m ≤ 1000000 ∧ Nm l.x ∧ Nm l.y ∧ slt l.x l.y
theorem link_ok {k n : Nat} {d : D} {E : List D} (hD : Dr n d) (hn : n ≤ 500000) (hE : E ≠ []) (hl : E.length ≤ 2000) (hP : ∀ p ∈ E, Pr p) :
    ∃ l d', LkG l ∧ Dr (n + 5) d' ∧ sem pds (k + 3) 12 [.ow d, .fr (.list E)] = .ok (.fr (ld l)) [.ow d', .fr (.list E)] := by
  obtain ⟨p, d1, a1, a2, a3⟩ := pick_ok (k := k) (xs := E) hD (by omega) hE (by omega)
  obtain ⟨x, y, ⟨hx, hxy⟩, hy, rfl⟩ := hP p a1
  obtain ⟨r, d2, c1, c2, c3, c4⟩ := next_ok (k := k + 1) (s := 1000001) a2 (by omega) (by decide) (by decide)
  obtain ⟨v, d3, e1, e2, e3⟩ := pick_ok (k := k) (xs := [.int 0, .int 1, .int 2, .int 3, .int 1000000, .int r]) c1 (by omega) (by simp) (by simp)
  have hv : ∃ i : Int, 0 ≤ i ∧ i ≤ 1000000 ∧ v = .int i := by
    simp only [List.mem_cons, List.not_mem_nil, or_false] at e1
    rcases e1 with h | h | h | h | h | h <;> subst h <;> exact ⟨_, by omega, by omega, rfl⟩
  obtain ⟨i, hi0, hi1, rfl⟩ := hv
  obtain ⟨r2, d4, f1, f2, f3, f4⟩ := next_ok (k := k + 1) (s := 1000001) e2 (by omega) (by decide) (by decide)
  obtain ⟨v, d5, g1, g2, g3⟩ := pick_ok (k := k) (xs := [.int 0, .int 1, .int 2, .int r2]) f1 (by omega) (by simp) (by simp)
  have hv : ∃ i : Int, 0 ≤ i ∧ i ≤ 1000000 ∧ v = .int i := by
    simp only [List.mem_cons, List.not_mem_nil, or_false] at g1
    rcases g1 with h | h | h | h <;> subst h <;> exact ⟨_, by omega, by omega, rfl⟩
  obtain ⟨m, hm0, hm1, rfl⟩ := hv
  refine ⟨⟨i, m, x, y⟩, d5, ⟨hi0, hi1, hm0, hm1, hx, hy, hxy⟩, g2.mono (by omega), ?_⟩
  rw [e12]
  simp [b12, a3, p6, c4, gList_of, e3, f4, g3, gTuple_of, ld_eq]
end Lw

set_option Elab.async false
set_option linter.all false
set_option maxRecDepth 100000
set_option maxHeartbeats 1000000
namespace Lw
open PySem PySem.Spec PyProof.Rows L2 FK
theorem isiT {d : D} {b : Bool} {t : String} (h : kitB (tyD d) t = some b) : gIsi t d = some (.fr (.bool b)) := by unfold gIsi; rw [h]; rfl
theorem k1 : kitB "NoneType" "tuple" = some false ∧ kitB "NoneType" "str" = some false ∧ kitB "NoneType" "int" = some false ∧ kitB "NoneType" "bool" = some false := by decide +kernel
theorem k2 : kitB "bool" "tuple" = some false ∧ kitB "bool" "str" = some false ∧ kitB "bool" "int" = some true ∧ kitB "bool" "bool" = some true := by decide +kernel
theorem k3 : kitB "int" "tuple" = some false ∧ kitB "int" "str" = some false ∧ kitB "int" "int" = some true ∧ kitB "int" "bool" = some false := by decide +kernel
theorem k4 : kitB "str" "tuple" = some false ∧ kitB "str" "str" = some true ∧ kitB "str" "int" = some false ∧ kitB "str" "bool" = some false := by decide +kernel
theorem k5 : kitB "list" "tuple" = some false ∧ kitB "list" "str" = some false ∧ kitB "list" "int" = some false ∧ kitB "list" "bool" = some false := by decide +kernel
theorem k6 : kitB "tuple" "tuple" = some true ∧ kitB "tuple" "str" = some false ∧ kitB "tuple" "int" = some false ∧ kitB "tuple" "bool" = some false := by decide +kernel
theorem k7 : kitB "dict" "tuple" = some false ∧ kitB "dict" "str" = some false ∧ kitB "dict" "int" = some false ∧ kitB "dict" "bool" = some false := by decide +kernel
theorem cutD_mem {ds : List D} {lo hi : Option Int} {x : D} (h : x ∈ FK.cutD ds lo hi) : x ∈ ds := by
  unfold FK.cutD at h
  exact List.mem_of_mem_drop (List.mem_of_mem_take h)
theorem cutD_len {ds : List D} {lo hi : Option Int} : (FK.cutD ds lo hi).length ≤ ds.length := by
  unfold FK.cutD
  rw [List.length_take, List.length_drop]; omega
theorem gSlT {ds : List D} {lo hi : Option Int} : gSl (.tuple ds) lo hi = some (.fr (.tuple (FK.cutD ds lo hi))) := rfl
theorem gNe_empty {ds : List D} : gNe (.tuple ds) (.tuple []) = some (.fr (.bool (!ds.isEmpty))) := by
  unfold gNe
  split
  · have : PyData.eqv (.tuple ds) (.tuple []) = ds.isEmpty := by
      show PyData.eqvAll ds [] = _
      cases ds <;> rfl
    rw [this]
  · rfl
def As (m : Nat) (z : Str) : Prop := z.cps.size ≤ m ∧ ∀ c ∈ z.cps.toList, c < 128
def placeP : D → Bool
  | .str x => decide (0 < x.cps.size ∧ x.cps.size ≤ 6) && x.cps.toList.all fun c => decide (97 ≤ c ∧ c ≤ 122)
  | _ => false
def numP : D → Bool
  | .int i => decide (0 ≤ i ∧ i ≤ 1000000)
  | _ => false
def ltP : D → D → Bool
  | .str x, .str y => decide (x.cps.toList < y.cps.toList)
  | _, _ => false
def linkP : D → Bool
  | .tuple [a, b, c, e] => numP a && numP b && placeP c && placeP e && ltP c e
  | _ => false
theorem number_ok {k : Nat} {t : D} (h : ∀ i, t = .int i → True) : sem pds (k + 1) 0 [.fr t, .fr (.int 1000000)] = .ok (.fr (.bool (numP t))) [.fr t, .fr (.int 1000000)] := by
  rw [e0]
  cases t with
  | none => simp [b0, isiT (d := .none) k1.2.2.1, numP]
  | bool b => simp [b0, isiT (d := .bool b) k2.2.2.1, isiT (d := .bool b) k2.2.2.2, numP]
  | int i =>
    by_cases h0 : 0 ≤ i
    · simp [b0, isiT (d := .int i) k3.2.2.1, isiT (d := .int i) k3.2.2.2, numP, h0]
    · simp [b0, isiT (d := .int i) k3.2.2.1, isiT (d := .int i) k3.2.2.2, numP, h0]
  | str z => simp [b0, isiT (d := .str z) k4.2.2.1, numP]
  | list ds => simp [b0, isiT (d := .list ds) k5.2.2.1, numP]
  | tuple ds => simp [b0, isiT (d := .tuple ds) k6.2.2.1, numP]
  | dict ps => simp [b0, isiT (d := .dict ps) k7.2.2.1, numP]
theorem sing_lt {a b : Nat} : ([a] < [b]) = (a < b) := by
  rw [List.cons_lt_cons_iff]; simp
def vPl : D → D
  | .str s => .bool (decide (97 ≤ s.cps.getD 0 0 ∧ s.cps.getD 0 0 ≤ 122))
  | _ => .none
theorem sign_ok {c : Nat} (h : c < 128) : PyData.strOk ⟨#[c]⟩ = true := strOk_of fun x hx => by
  have : x = c := by simpa using hx
  subst this; exact h
theorem le_a {c : Nat} (h : c < 128) : gLe (.str (Str.ofString "a")) (.str ⟨#[c]⟩) = some (.fr (.bool (decide (97 ≤ c)))) := by
  have e : (Str.ofString "a").cps.toList = [97] := by decide +kernel
  rw [gLe_str (by decide +kernel) (sign_ok h), e]
  show some (B.fr (.bool (!decide ([c] < [97])))) = _
  rw [show decide ([c] < [97]) = decide (c < 97) by simp [sing_lt], show (!decide (c < 97)) = decide (97 ≤ c) by simp [← decide_not, Nat.not_lt]]
theorem le_z {c : Nat} (h : c < 128) : gLe (.str ⟨#[c]⟩) (.str (Str.ofString "z")) = some (.fr (.bool (decide (c ≤ 122)))) := by
  have e : (Str.ofString "z").cps.toList = [122] := by decide +kernel
  rw [gLe_str (sign_ok h) (by decide +kernel), e]
  show some (B.fr (.bool (!decide ([122] < [c])))) = _
  rw [show decide ([122] < [c]) = decide (122 < c) by simp [sing_lt], show (!decide (122 < c)) = decide (c ≤ 122) by simp [← decide_not, Nat.not_lt]]
theorem boolsOf_map : ∀ (l : List Bool), boolsOf (l.map .bool) = some l
  | [] => rfl
  | b :: l => by
    show (boolsOf (l.map .bool)).map (b :: ·) = _
    rw [boolsOf_map l]; rfl
theorem place_ok {k : Nat} {t : D} (ht : ∀ z, t = .str z → As 8000 z) : sem pds (k + 1) 1 [.fr t] = .ok (.fr (.bool (placeP t))) [.fr t] := by
  rw [e1]
  cases t with
  | none => simp [b1, isiT (d := .none) k1.2.1, placeP]
  | bool b => simp [b1, isiT (d := .bool b) k2.2.1, placeP]
  | int i => simp [b1, isiT (d := .int i) k3.2.1, placeP]
  | list ds => simp [b1, isiT (d := .list ds) k5.2.1, placeP]
  | tuple ds => simp [b1, isiT (d := .tuple ds) k6.2.1, placeP]
  | dict ps => simp [b1, isiT (d := .dict ps) k7.2.1, placeP]
  | str z =>
    have hz := ht z rfl
    have hlen : gLen [.str z] = some (.fr (.int (z.cps.size : Nat))) := if_pos (by rw [szL]; have := hz.1; show z.cps.size ≤ _; omega)
    by_cases h6 : 0 < z.cps.size ∧ z.cps.size ≤ 6
    · have c1 : 0 < z.cps.size := h6.1
      have c2 : ((z.cps.size : Nat) : Int) ≤ 6 := by omega
      have key := lcR_pure (vs := [1]) (g := gNm 1) (ct := sYes) (fe := b1e0 (sem pds k)) (fun d => [.fr (.str z), .fr d]) (fun _ => true) vPl (ds := z.cps.toList.map fun c => .str ⟨#[c]⟩) (acc := []) (ρ := [.fr (.str z), .no]) (fun d hd => by
          obtain ⟨c, hc, rfl⟩ := List.mem_map.mp hd
          have h := hz.2 c hc
          refine ⟨by simp, rfl, fun _ => ⟨.fr (.bool (decide (97 ≤ c ∧ c ≤ 122))), ?_, rfl⟩, rfl⟩
          by_cases h9 : 97 ≤ c
          · by_cases h8 : c ≤ 122 <;> simp [b1e0, le_a h, le_z h, h9, h8]
          · simp [b1e0, le_a h, h9]) (by rw [szL, List.length_map, Array.length_toList]; show 0 + z.cps.size ≤ 16777216; omega)
      rw [List.filter_eq_self.mpr (fun _ _ => rfl), List.nil_append, List.map_map] at key
      have hm : (z.cps.toList.map (vPl ∘ fun c => PyData.str ⟨#[c]⟩)) = (z.cps.toList.map fun c => decide (97 ≤ c ∧ c ≤ 122)).map PyData.bool := by
        rw [List.map_map]; rfl
      rw [hm] at key
      have ga : gAll [.list ((z.cps.toList.map fun c => decide (97 ≤ c ∧ c ≤ 122)).map PyData.bool)] = some (.fr (.bool (z.cps.toList.all fun c => decide (97 ≤ c ∧ c ≤ 122)))) := by
        show (boolsOf _).map _ = _
        rw [boolsOf_map]
        show some (B.fr (.bool ((z.cps.toList.map fun c => decide (97 ≤ c ∧ c ≤ 122)).all id))) = _
        rw [List.all_map]; rfl
      have hit : itD (.str z) = some (z.cps.toList.map fun c => .str ⟨#[c]⟩) := rfl
      have hp : placeP (.str z) = z.cps.toList.all fun c => decide (97 ≤ c ∧ c ≤ 122) := by
        show (decide (0 < z.cps.size ∧ z.cps.size ≤ 6) && _) = _
        rw [decide_eq_true h6, Bool.true_and]
      rw [hp]
      generalize (z.cps.toList.map fun c => decide (97 ≤ c ∧ c ≤ 122)).map PyData.bool = bl at *
      generalize (z.cps.toList.all fun c => decide (97 ≤ c ∧ c ≤ 122)) = br at *
      simp [b1, isiT (d := .str z) k4.2.1, hlen, c1, c2, hit, key, ga]
    · have hp : placeP (.str z) = false := by
        show (decide (0 < z.cps.size ∧ z.cps.size ≤ 6) && _) = _
        rw [decide_eq_false h6, Bool.false_and]
      rw [hp]
      by_cases c1 : 0 < z.cps.size
      · have c2 : ¬ ((z.cps.size : Nat) : Int) ≤ 6 := by omega
        simp [b1, isiT (d := .str z) k4.2.1, hlen, c1, c2]
      · simp [b1, isiT (d := .str z) k4.2.1, hlen, c1]
theorem placeP_str {c : D} (h : placeP c = true) : ∃ z, c = .str z := by
  cases c with
  | str z => exact ⟨z, rfl⟩
  | _ => cases h
theorem four_of {ds : List D} (h : ds.length = 4) : ∃ a b c e, ds = [a, b, c, e] := by
  match ds, h with
  | [a, b, c, e], _ => exact ⟨a, b, c, e, rfl⟩
theorem linkP_no {ds : List D} (h : ds.length ≠ 4) : linkP (.tuple ds) = false := by
  match ds with
  | [] => rfl
  | [a] => rfl
  | [a, b] => rfl
  | [a, b, c] => rfl
  | [a, b, c, e] => exact absurd rfl h
  | a :: b :: c :: e :: f :: r => rfl
/-- its texts are of the common signs -/
def Gx (t : D) : Prop := ∀ ds, t = .tuple ds → ∀ z, PyData.str z ∈ ds → As 8000 z
theorem isl_ok {k : Nat} {t : D} (hG : Gx t) : sem pds (k + 2) 2 [.fr t] = .ok (.fr (.bool (linkP t))) [.fr t] := by
  rw [e2]
  cases t with
  | none => simp [b2, isiT (d := .none) k1.1, linkP]
  | bool b => simp [b2, isiT (d := .bool b) k2.1, linkP]
  | int i => simp [b2, isiT (d := .int i) k3.1, linkP]
  | list ds => simp [b2, isiT (d := .list ds) k5.1, linkP]
  | str z => simp [b2, isiT (d := .str z) k4.1, linkP]
  | dict ps => simp [b2, isiT (d := .dict ps) k7.1, linkP]
  | tuple ds =>
    have hlen : gLen [.tuple ds] = some (.fr (.int ds.length)) := rfl
    by_cases h4 : ds.length = 4
    · obtain ⟨a, b, c, e, rfl⟩ := four_of h4
      have n1 := number_ok (k := k) (t := a) fun _ _ => True.intro
      have n2 := number_ok (k := k) (t := b) fun _ _ => True.intro
      have q1 := place_ok (k := k) (t := c) fun z hz => by subst hz; exact hG _ rfl z (by simp)
      have q2 := place_ok (k := k) (t := e) fun z hz => by subst hz; exact hG _ rfl z (by simp)
      have hl : linkP (.tuple [a, b, c, e]) = (numP a && numP b && placeP c && placeP e && ltP c e) := rfl
      rw [hl]
      have i1 := isiT (d := .tuple [a, b, c, e]) k6.1
      cases h1 : numP a <;> rw [h1] at n1
      · simp [b2, i1, hlen, n1]
      · cases h2 : numP b <;> rw [h2] at n2
        · simp [b2, i1, hlen, n1, n2]
        · cases h3 : placeP c <;> rw [h3] at q1
          · simp [b2, i1, hlen, n1, n2, q1]
          · cases h5 : placeP e <;> rw [h5] at q2
            · simp [b2, i1, hlen, n1, n2, q1, q2]
            · obtain ⟨x, rfl⟩ := placeP_str h3
              obtain ⟨y, rfl⟩ := placeP_str h5
              have gl := gLt_str (strOk_of (hG _ rfl x (by simp)).2) (strOk_of (hG _ rfl y (by simp)).2)
              have hlt : ltP (.str x) (.str y) = decide (x.cps.toList < y.cps.toList) := rfl
              rw [hlt]
              generalize decide (x.cps.toList < y.cps.toList) = r at *
              simp [b2, i1, hlen, n1, n2, q1, q2, gl]
    · have hi : ¬ ((ds.length : Int) = 4) := by omega
      rw [linkP_no h4]
      simp [b2, isiT (d := .tuple ds) k6.1, hlen, hi]
theorem gAdd_list {xs ys : List D} (h : xs.length + ys.length ≤ 10000) : gAdd (.list xs) (.list ys) = some (.ow (.list (xs ++ ys))) := by
  show (if xs.length + ys.length ≤ sizeLine then some (B.ow (.list (xs ++ ys))) else none) = _
  exact if_pos (by rw [szL]; omega)
theorem gAdd_tup {xs ys : List D} (h : xs.length + ys.length ≤ 10000) : gAdd (.tuple xs) (.tuple ys) = some (.fr (.tuple (xs ++ ys))) := by
  show (if xs.length + ys.length ≤ sizeLine then some (B.fr (.tuple (xs ++ ys))) else none) = _
  exact if_pos (by rw [szL]; omega)
theorem gAdd_str {x y : Str} (h : x.length + y.length ≤ 10000) : gAdd (.str x) (.str y) = some (.fr (.str (x ++ y))) := by
  show (if x.length + y.length ≤ sizeLine then some (B.fr (.str (x ++ y))) else none) = _
  exact if_pos (by rw [szL]; omega)
theorem Nm.as {z : Str} (h : Nm z) : As 8000 z := ⟨by have := h.2.1; omega, fun c hc => by have := h.2.2 c hc; omega⟩
theorem placeP_nm {z : Str} (h : Nm z) : placeP (.str z) = true := by
  show (decide (0 < z.cps.size ∧ z.cps.size ≤ 6) && z.cps.toList.all fun c => decide (97 ≤ c ∧ c ≤ 122)) = true
  rw [Bool.and_eq_true]
  exact ⟨decide_eq_true ⟨h.1, h.2.1⟩, List.all_eq_true.mpr fun c hc => decide_eq_true (h.2.2 c hc)⟩
theorem linkP_ld {l : Lnk} (h : LkG l) : linkP (ld l) = true := by
  obtain ⟨h1, h2, h3, h4, h5, h6, h7⟩ := h
  show (decide (0 ≤ l.c ∧ l.c ≤ 1000000) && decide (0 ≤ l.m ∧ l.m ≤ 1000000) && placeP (.str l.x) && placeP (.str l.y) && decide (l.x.cps.toList < l.y.cps.toList)) = true
  rw [decide_eq_true ⟨h1, h2⟩, decide_eq_true ⟨h3, h4⟩, placeP_nm h5, placeP_nm h6, decide_eq_true (show l.x.cps.toList < l.y.cps.toList from h7)]
  rfl
theorem gx_ld {l : Lnk} (h : LkG l) : Gx (ld l) := fun ds e z hz => by
  cases e
  simp only [List.mem_cons, List.not_mem_nil, or_false] at hz
  rcases hz with e | e | e | e
  · cases e
  · cases e
  · cases e; exact h.2.2.2.2.1.as
  · cases e; exact h.2.2.2.2.2.1.as
theorem isl_ld {k : Nat} {l : Lnk} (h : LkG l) : sem pds (k + 2) 2 [.fr (ld l)] = .ok (.fr (.bool true)) [.fr (ld l)] := by rw [isl_ok (gx_ld h), linkP_ld h]
theorem lt_kit : gIsiT ["list", "tuple"] (.list []) = some (.fr (.bool true)) ∧ gIsiT ["list", "tuple"] (.tuple []) = some (.fr (.bool true)) := by
  have h1 : anyTy "list" ["list", "tuple"] = some true := by decide +kernel
  have h2 : anyTy "tuple" ["list", "tuple"] = some true := by decide +kernel
  constructor
  · show (anyTy "list" ["list", "tuple"]).map _ = _
    rw [h1]; rfl
  · show (anyTy "tuple" ["list", "tuple"]).map _ = _
    rw [h2]; rfl
theorem lt_list {ds : List D} : gIsiT ["list", "tuple"] (.list ds) = some (.fr (.bool true)) := lt_kit.1
theorem lt_tup {ds : List D} : gIsiT ["list", "tuple"] (.tuple ds) = some (.fr (.bool true)) := lt_kit.2
theorem need_loop {k : Nat} {ls : List Lnk} (h : ∀ l ∈ ls, LkG l) (L : B) : ∃ y1 y2, forR (gTp 2 (gsCons (gNm 1) (gsCons (gNm 2) gsNil))) (b3f0 (sem pds (k + 2))) (pairsAt (rngL 0 (ls.map ld).length) (ls.map ld)) [L, .no, .no] = .nx [L, y1, y2] := by
  obtain ⟨ρ', f1, y1, y2, f2⟩ := forR_inv (g := gTp 2 (gsCons (gNm 1) (gsCons (gNm 2) gsNil))) (b := b3f0 (sem pds (k + 2))) (fun i ρ => ∃ y1 y2, ρ = [L, y1, y2]) (ds := pairsAt (rngL 0 (ls.map ld).length) (ls.map ld)) (ρ := [L, .no, .no]) ⟨.no, .no, rfl⟩
    (fun i e ρ he ⟨y1, y2, h1⟩ => by
      subst h1
      obtain ⟨z, hz, rfl⟩ := enum_get he
      obtain ⟨l, hl, rfl⟩ := List.mem_map.mp (List.mem_of_getElem? hz)
      have q := isl_ld (k := k) (h l hl)
      exact ⟨_, by simp; exact rfl, [L, .fr (.int i), .fr (ld l)], .inl (by simp [b3f0, q]), _, _, rfl⟩)
  subst f2
  exact ⟨y1, y2, f1⟩
theorem strOk_ld {ls : List Lnk} (h : ∀ l ∈ ls, LkG l) : ∀ l ∈ ls, PyData.strOk l.x = true ∧ PyData.strOk l.y = true := fun l hl => ⟨sok (h l hl).2.2.2.2.1, sok (h l hl).2.2.2.2.2.1⟩
theorem need_list {k : Nat} {ls : List Lnk} (h : ∀ l ∈ ls, LkG l) (hl : ls.length < 300) : sem pds (k + 3) 3 [.fr (.list (ls.map ld))] = .ok (.ow (.list (rose (ls.map ld)))) [.fr (.list (ls.map ld))] := by
  obtain ⟨y1, y2, f1⟩ := need_loop (k := k) h (.fr (.list (ls.map ld)))
  have f2 := ss_list (rose_links (strOk_ld h) hl)
  have f3 : gEnum [.list (ls.map ld)] = some (pairsAt (rngL 0 (ls.map ld).length) (ls.map ld)) := rfl
  have f4 := lt_list (ds := ls.map ld)
  rw [e3]
  generalize rose (ls.map ld) = R at *
  generalize pairsAt (rngL 0 (ls.map ld).length) (ls.map ld) = P at *
  generalize ls.map ld = LL at *
  simp [b3, f4, f3, f1, f2]
theorem need_tuple {k : Nat} {ls : List Lnk} (h : ∀ l ∈ ls, LkG l) (hl : ls.length < 300) : sem pds (k + 3) 3 [.fr (.tuple (ls.map ld))] = .ok (.ow (.list (rose (ls.map ld)))) [.fr (.tuple (ls.map ld))] := by
  obtain ⟨y1, y2, f1⟩ := need_loop (k := k) h (.fr (.tuple (ls.map ld)))
  have f2 := ss_tuple (rose_links (strOk_ld h) hl)
  have f3 : gEnum [.tuple (ls.map ld)] = some (pairsAt (rngL 0 (ls.map ld).length) (ls.map ld)) := rfl
  have f4 := lt_tup (ds := ls.map ld)
  rw [e3]
  generalize rose (ls.map ld) = R at *
  generalize pairsAt (rngL 0 (ls.map ld).length) (ls.map ld) = P at *
  generalize ls.map ld = LL at *
  simp [b3, f4, f3, f1, f2]
def endsOf (l : Lnk) : D := .tuple [.str l.x, .str l.y]
def flatD : D → List D
  | .tuple ds => ds
  | _ => []
theorem flat2 {α β : Type} {g : α → List β} (h : ∀ a, (g a).length = 2) : ∀ rs : List α, (rs.flatMap g).length = 2 * rs.length
  | [] => rfl
  | a :: rs => by rw [List.flatMap_cons, List.length_append, h, flat2 h rs, List.length_cons]; omega
end Lw

set_option Elab.async false
set_option linter.all false
set_option maxRecDepth 100000
set_option maxHeartbeats 1000000
namespace Lw
open PySem PySem.Spec PyProof.Rows L2 FK
theorem pureL_lds {rs : List Lnk} : pureL (rs.map ld) = true := pureL_all fun d hd => by
  obtain ⟨l, _, rfl⟩ := List.mem_map.mp hd
  simp [ld_eq, pureD]
theorem pureL_strs {rs : List Str} : pureL (rs.map .str) = true := pureL_all fun d hd => by
  obtain ⟨l, _, rfl⟩ := List.mem_map.mp hd
  rfl
theorem pureT_strs {rs : List Str} : pureD (.tuple (rs.map .str)) = true := by rw [pureD]; exact pureL_strs
theorem gNotInT_texts {ps : List Str} {y : Str} (hd : PyData.strOk y = true) (hp : ∀ z ∈ ps, PyData.strOk z = true) : gNotIn (.str y) (.tuple (ps.map .str)) = some (.fr (.bool (!decide (y ∈ ps)))) := by
  unfold gNotIn
  rw [inT_texts hd hp]; rfl
theorem gInL_texts {ps : List Str} {y : Str} (hd : PyData.strOk y = true) (hp : ∀ z ∈ ps, PyData.strOk z = true) : gIn (.str y) (.list (ps.map .str)) = some (.fr (.bool (decide (y ∈ ps)))) := by
  unfold gIn
  rw [inL_texts hd hp]; rfl
theorem gAddT_strs {xs ys : List Str} (h : xs.length + ys.length ≤ 10000) : gAdd (.tuple (xs.map .str)) (.tuple (ys.map .str)) = some (.fr (.tuple ((xs ++ ys).map .str))) := by
  rw [gAdd_tup (by rw [List.length_map, List.length_map]; exact h), List.map_append]
theorem nm_grp {ls : List Lnk} {G : Str → List Str} (g : Grp (Of ls) G) (h : ∀ l ∈ ls, LkG l) {a : Str} (ha : Nm a) : ∀ z ∈ G a, Nm z := fun z hz => by
  rcases ((g.mem _ _).1 hz).ends with e | ⟨l, hl, e | e⟩
  · rw [e]; exact ha
  · rw [e]; exact (h l hl).2.2.2.2.1
  · rw [e]; exact (h l hl).2.2.2.2.2.1
theorem net_turn {tb : Nat → SE} {c : D} {ps : List (D × D)} {G : Str → List Str} {fs : List Lnk} {l : Lnk} {x4 x5 x6 x7 x8 x9 : B} (hG : GD ps G) (hl : LkG l) (hfs : fs.length ≤ 1000) (hps : ps.length ≤ 500000)
    (hx : (G l.x).length ≤ 601) (hy : (G l.y).length ≤ 601) (nx : ∀ z ∈ G l.x, Nm z) (h8 : Fz x8) (h9 : Fz x9) :
    ∃ ps' : List (D × D), b4f0 tb [.fr c, .ow (.dict ps), .ow (.list (fs.map ld)), .fr (ld l), x4, x5, x6, x7, x8, x9, .no] = .nx [.fr c, .ow (.dict ps'), .ow (.list ((if l.y ∈ G l.x then fs else fs ++ [l]).map ld)), .fr (ld l), .fr (.int l.c), .fr (.int l.m), .fr (.str l.x), .fr (.str l.y), .fr (gT G l.x), .fr (gT G l.y), .no]
      ∧ GD ps' (if l.y ∈ G l.x then G else gPut G l.x l.y) ∧ ps'.length ≤ ps.length + 1202 := by
  have g1 := hG.get l.x
  have g2 := hG.get l.y
  have t1 : gTuple [.str l.x] = some (.fr (.tuple [.str l.x])) := gTuple_of (by simp)
  have t2 : gTuple [.str l.y] = some (.fr (.tuple [.str l.y])) := gTuple_of (by simp)
  have gn : gNotIn (.str l.y) (gT G l.x) = some (.fr (.bool (!decide (l.y ∈ G l.x)))) := gNotInT_texts (sok hl.2.2.2.2.2.1) fun z hz => sok (nx z hz)
  have pT : ∀ z, pureB (.fr (gT G z)) = true := fun z => pureT_strs
  have pL : pureB (.ow (.list (fs.map ld))) = true := pureL_lds
  have ok1 : okBack 1 (.dict ps) (.fr (gT G l.x)) [.fr c, .ow (.dict ps), .ow (.list (fs.map ld)), .fr (ld l), .fr (.int l.c), .fr (.int l.m), .fr (.str l.x), .fr (.str l.y), x8, x9, .no] [.fr c, .fr (.dict ps), .ow (.list (fs.map ld)), .fr (ld l), .fr (.int l.c), .fr (.int l.m), .fr (.str l.x), .fr (.str l.y), x8, x9, .no] = true := okBack_of (pT _) rfl (by simp [h8.elim, pureL_lds, show pureB x8 = true ∨ isFr x8 = true from h8, show pureB x9 = true ∨ isFr x9 = true from h9])
  have ok2 : okBack 1 (.dict ps) (.fr (gT G l.y)) [.fr c, .ow (.dict ps), .ow (.list (fs.map ld)), .fr (ld l), .fr (.int l.c), .fr (.int l.m), .fr (.str l.x), .fr (.str l.y), x8, x9, .no] [.fr c, .fr (.dict ps), .ow (.list (fs.map ld)), .fr (ld l), .fr (.int l.c), .fr (.int l.m), .fr (.str l.x), .fr (.str l.y), x8, x9, .no] = true := okBack_of (pT _) rfl (by simp [pureL_lds, show pureB x8 = true ∨ isFr x8 = true from h8, show pureB x9 = true ∨ isFr x9 = true from h9])
  have lt : (fs.map ld).length < sizeLine := by rw [List.length_map, szL]; omega
  by_cases hin : l.y ∈ G l.x
  · rw [if_pos hin, if_pos hin]
    rw [decide_eq_true hin] at gn
    refine ⟨ps, ?_, hG, Nat.le_add_right _ _⟩
    generalize gT G l.x = A at *
    generalize gT G l.y = Bt at *
    generalize fs.map ld = FS at *
    simp [ld_eq] at ok1 ok2
    simp [b4f0, ld_eq, g1, g2, t1, t2, ok1, ok2, gn]
  · rw [if_neg hin, if_neg hin]
    rw [decide_eq_false hin] at gn
    have ga : gAdd (gT G l.x) (gT G l.y) = some (.fr (.tuple ((G l.x ++ G l.y).map .str))) := gAddT_strs (by omega)
    have it : itD (.tuple ((G l.x ++ G l.y).map .str)) = some ((G l.x ++ G l.y).map .str) := rfl
    have dc := dcR_txt (vs := [10]) (g := gNm 10) (ct := sYes) (fk := b4k0 tb) (fv := b4e0 tb) (fun d => [.fr c, .ow (.dict ps), .ow (.list ((fs ++ [l]).map ld)), .fr (ld l), .fr (.int l.c), .fr (.int l.m), .fr (.str l.x), .fr (.str l.y), .fr (gT G l.x), .fr (gT G l.y), .fr d]) (.tuple ((G l.x ++ G l.y).map .str)) (zs := G l.x ++ G l.y) (acc := [])
      (ρ := [.fr c, .ow (.dict ps), .ow (.list ((fs ++ [l]).map ld)), .fr (ld l), .fr (.int l.c), .fr (.int l.m), .fr (.str l.x), .fr (.str l.y), .fr (gT G l.x), .fr (gT G l.y), .no]) (fun z hz => by
        refine ⟨by simp, rfl, rfl, ⟨.fr (.tuple ((G l.x ++ G l.y).map .str)), ?_, rfl⟩, by simp⟩
        generalize gT G l.x = A at *
        generalize gT G l.y = Bt at *
        simp [-List.map_append, b4e0, ga]) (fun p hp => nomatch hp) (by rw [List.length_append, List.length_nil]; omega)
    have tq : TxtK (putAll [] (.tuple ((G l.x ++ G l.y).map .str)) (G l.x ++ G l.y)) := putAll_txt fun p hp => nomatch hp
    have lq : (putAll [] (.tuple ((G l.x ++ G l.y).map .str)) (G l.x ++ G l.y)).length ≤ 1202 := by
      have := putAll_len (v := .tuple ((G l.x ++ G l.y).map .str)) (zs := G l.x ++ G l.y) (ps := [])
      rw [List.length_append, List.length_nil] at this
      omega
    have a1 := hG.1.allE
    have a2 := tq.allE
    have hle : ps.length + (putAll [] (.tuple ((G l.x ++ G l.y).map .str)) (G l.x ++ G l.y)).length ≤ sizeLine := by rw [szL]; omega
    refine ⟨dmerge ps (putAll [] (.tuple ((G l.x ++ G l.y).map .str)) (G l.x ++ G l.y)), ?_, hG.put (dmerge_txt hG.1 tq) fun z => ?_, ?_⟩
    · rw [List.map_append (l₁ := fs)] at dc ⊢
      have e1 : List.map ld [l] = [ld l] := rfl
      rw [e1] at dc ⊢
      generalize putAll [] (PyData.tuple ((G l.x ++ G l.y).map .str)) (G l.x ++ G l.y) = Q at *
      generalize (G l.x ++ G l.y).map PyData.str = Z at *
      generalize gT G l.x = A at *
      generalize gT G l.y = Bt at *
      generalize fs.map ld = FS at *
      simp [ld_eq] at ok1 ok2 dc
      simp [b4f0, ld_eq, g1, g2, t1, t2, ok1, ok2, gn, lt, ga, it, dc, a1, a2, hle]
    · rw [dmerge_get (v := .tuple ((G l.x ++ G l.y).map .str)) tq fun q hq => (putAll_mem hq fun r hr => nomatch hr).1]
      by_cases h : z ∈ G l.x ++ G l.y
      · rw [if_pos h, if_pos]
        have hg := putAll_get (v := .tuple ((G l.x ++ G l.y).map .str)) (y := z) (zs := G l.x ++ G l.y) (ps := [])
        rw [if_pos h] at hg
        unfold getT dget at hg
        obtain ⟨q, h1, _⟩ := Option.map_eq_some_iff.mp hg
        have h2 := List.find?_some h1
        obtain ⟨w, hw⟩ := tq q (List.mem_of_find?_eq_some h1)
        refine ⟨q, List.mem_of_find?_eq_some h1, ?_⟩
        rw [hw] at h2 ⊢
        simp at h2
        rw [h2]
      · rw [if_neg h, if_neg]
        rintro ⟨q, hq, e⟩
        rcases (putAll_mem hq fun r hr => nomatch hr).2 with ⟨w, hw, e2⟩ | ⟨r, hr, _⟩
        · rw [e] at e2; cases e2; exact h hw
        · exact nomatch hr
    · have := dmerge_len (ps := ps) tq
      omega
theorem net_of_ok {k : Nat} {c : D} {rs : List Lnk} (hc : itD c = some (rs.map ld)) (h : ∀ l ∈ rs, LkG l) (hl : rs.length ≤ 300) : sem pds (k + 1) 4 [.fr c] = .ok (.ow (.list ((netL rs).map ld))) [.fr c] := by
  obtain ⟨ρ', f1, ps, G, fs, x3, x4, x5, x6, x7, x8, x9, f2, f3, f4, f5, f6, f7, f8⟩ := forR_inv (g := gNm 3) (b := b4f0 (sem pds k)) (fun i ρ => ∃ (ps : List (D × D)) (G : Str → List Str) (fs : List Lnk) (x3 x4 x5 x6 x7 x8 x9 : B), Grp (Of (rs.take i)) G ∧ GD ps G ∧ fs ++ netR (rs.take i) (rs.drop i) = netL rs ∧ ps.length ≤ i * 1202 ∧ Fz x8 ∧ Fz x9 ∧
      ρ = [.fr c, .ow (.dict ps), .ow (.list (fs.map ld)), x3, x4, x5, x6, x7, x8, x9, .no]) (ds := rs.map ld) (ρ := [.fr c, .ow (.dict []), .ow (.list []), .no, .no, .no, .no, .no, .no, .no, .no])
    ⟨[], gIni, [], .no, .no, .no, .no, .no, .no, .no, grp_ini, GD.ini, rfl, Nat.le_refl _, .no, .no, rfl⟩ (fun i e ρ he ⟨ps, G, fs, x3, x4, x5, x6, x7, x8, x9, h1, h2, h3, h4, h5, h6, h7⟩ => by
      subst h7
      rw [List.getElem?_map] at he
      obtain ⟨l, hx, rfl⟩ := Option.map_eq_some_iff.mp he
      have hi := (List.getElem?_eq_some_iff.mp hx).1
      have tk : rs.take (i + 1) = rs.take i ++ [l] := by rw [List.take_succ, hx]; rfl
      have dr : rs.drop i = l :: rs.drop (i + 1) := by
        rw [List.drop_eq_getElem_cons hi]
        rw [List.getElem?_eq_getElem hi] at hx
        cases hx; rfl
      have hm : l ∈ rs := List.mem_of_getElem? hx
      have sub : ∀ m ∈ rs.take i, LkG m := fun m hm => h m (List.mem_of_mem_take hm)
      have lk : (rs.take i).length ≤ 300 := by rw [List.length_take]; omega
      have q1 := h1.len l.x
      have q2 := h1.len l.y
      have fl : fs.length ≤ 300 := by
        have e := congrArg List.length h3
        rw [List.length_append] at e
        have := (netL_sub (r := rs)).length_le
        omega
      obtain ⟨ps', t1, t2, t3⟩ := net_turn (tb := sem pds k) (c := c) (fs := fs) (x4 := x4) (x5 := x5) (x6 := x6) (x7 := x7) h2 (h l hm) (by omega) (by
        have : i * 1202 ≤ 300 * 1202 := Nat.mul_le_mul_right _ (by omega)
        omega) (by omega) (by omega) (nm_grp h1 sub (h l hm).2.2.2.2.1) h5 h6
      refine ⟨_, by simp [-List.getElem?_map], _, .inl t1, ps', _, _, _, _, _, _, _, _, _, ?_, t2, ?_, by rw [Nat.add_mul]; omega, .fr, .fr, rfl⟩
      · rw [tk]
        split
        · rename_i w; exact h1.keep w
        · rename_i w; exact h1.put w
      · rw [tk]
        rw [dr] at h3
        unfold netR at h3
        by_cases w : l.y ∈ G l.x
        · rw [if_pos ((h1.mem _ _).1 w)] at h3
          rw [if_pos w]; exact h3
        · rw [if_neg fun z => w ((h1.mem _ _).2 z)] at h3
          rw [if_neg w, List.append_assoc]; exact h3)
  rw [List.length_map, List.drop_length] at f4
  have e : fs = netL rs := by
    rw [← f4]; unfold netR; simp
  subst e
  subst f8
  have gl : gList [] = some (.ow (.list [])) := gList_of (by simp)
  rw [e4]
  simp [b4, gl, hc, f1]
/-- what isn't struck -/
theorem left_ok {k : Nat} {rs ss : List Lnk} {s : D} (h : ∀ l ∈ rs, LkG l) (hl : rs.length ≤ 300) (hs : ∀ l ∈ ss, LkG l) (hsl : ss.length < 300) (es : s = .list (ss.map ld) ∨ s = .tuple (ss.map ld)) :
    sem pds (k + 4) 5 [.fr (.list (rs.map ld)), .fr s] = .ok (.ow (.list ((rs.filter fun l => decide (l ∉ ss)).map ld))) [.fr (.list (rs.map ld)), .fr s] := by
  obtain ⟨us, e1, p1, m1, _⟩ := rk_lnk.rose ss
  have n1 : sem pds (k + 3) 3 [.fr s] = .ok (.ow (.list (us.map ld))) [.fr s] := by
    rw [← e1]
    rcases es with rfl | rfl
    · exact need_list hs hsl
    · exact need_tuple hs hsl
  have ul : us.length ≤ 300 := by
    have e := congrArg List.length e1
    rw [List.length_map] at e
    rw [← e]
    unfold rose
    rw [List.length_mergeSort]
    exact Nat.le_trans (once_len _) (by rw [List.length_map]; omega)
  have dc := dcR_lnk (vs := [3]) (g := gNm 3) (ct := sYes) (fk := b5k0 (sem pds (k + 3))) (fv := b5e1 (sem pds (k + 3))) (fun d => [.fr (.list (rs.map ld)), .fr s, .no, .fr d]) (fun _ => true) (fun _ => .bool true) (ls := us) (acc := []) (ρ := [.fr (.list (rs.map ld)), .fr s, .no, .no])
    (fun l hl => ⟨by simp, rfl, fun _ => ⟨rfl, .fr (.bool true), rfl, rfl⟩, by simp⟩) (fun p hp => nomatch hp) (by rw [List.length_nil]; omega)
  rw [List.filter_eq_self.mpr fun _ _ => rfl] at dc
  have kq : LnkK (us.foldl (fun acc l => putL acc l (.bool true)) []) := putsL_key fun p hp => nomatch hp
  have gq : ∀ l, (getL (us.foldl (fun acc l => putL acc l (.bool true)) []) l).isSome = decide (l ∈ ss) := fun l => by
    rw [putsL_get (v := fun _ => .bool true)]
    by_cases h : l ∈ us
    · rw [if_pos h, decide_eq_true ((m1 l).1 h)]; rfl
    · rw [if_neg h, decide_eq_false fun w => h ((m1 l).2 w)]; rfl
  have gn : ∀ l, gNotIn (ld l) (.dict (us.foldl (fun acc l => putL acc l (.bool true)) [])) = some (.fr (.bool (decide (l ∉ ss)))) := fun l => by
    rw [gNotIn_lnk kq, gq]; simp
  generalize us.foldl (fun acc l => putL acc l (PyData.bool true)) [] = Q at *
  have c1 := lcR_pure (vs := [3]) (g := gNm 3) (ct := b5c0 (sem pds (k + 3))) (fe := b5e0 (sem pds (k + 3))) (fun d => [.fr (.list (rs.map ld)), .fr s, .fr (.dict Q), .fr d]) (fun d => match gNotIn d (.dict Q) with | some (.fr (.bool b)) => b | _ => false) id (ds := rs.map ld) (acc := []) (ρ := [.fr (.list (rs.map ld)), .fr s, .fr (.dict Q), .no])
    (fun d hd => by
      obtain ⟨l, hl, rfl⟩ := List.mem_map.mp hd
      refine ⟨by simp, ?_, fun _ => ⟨.fr (ld l), rfl, rfl⟩, by simp⟩
      rw [gn l]
      have g := gn l
      generalize ld l = LD at *
      simp [b5c0, g]) (by rw [szL, List.length_map, List.length_nil]; omega)
  rw [List.nil_append, List.map_id, List.filter_map] at c1
  have ef : (rs.filter ((fun d => match gNotIn d (.dict Q) with | some (.fr (.bool b)) => b | _ => false) ∘ ld)) = rs.filter fun l => decide (l ∉ ss) := List.filter_congr fun l _ => by
    show (match gNotIn (ld l) (.dict Q) with | some (.fr (.bool b)) => b | _ => false) = _
    rw [gn l]
  rw [ef] at c1
  have i1 : itD (.list (us.map ld)) = some (us.map ld) := rfl
  have i2 : itD (.list (rs.map ld)) = some (rs.map ld) := rfl
  rw [e5]
  generalize (rs.filter fun l => decide (l ∉ ss)).map ld = R2 at *
  generalize rs.map ld = R at *
  generalize us.map ld = U at *
  simp [b5, n1, i1, dc, i2, c1]
theorem need_is {k : Nat} {rs ls : List Lnk} {c : D} (hr : rs.Pairwise llt) (hm : ∀ a, a ∈ rs ↔ a ∈ ls) (h : ∀ l ∈ ls, LkG l) (hl : ls.length < 300) (ec : c = .list (ls.map ld) ∨ c = .tuple (ls.map ld)) : sem pds (k + 3) 3 [.fr c] = .ok (.ow (.list (rs.map ld))) [.fr c] := by
  rw [← rose_is hr hm]
  rcases ec with rfl | rfl
  · exact need_list h hl
  · exact need_tuple h hl
theorem len_is {rs ls : List Lnk} (hr : rs.Pairwise llt) (hm : ∀ a, a ∈ rs ↔ a ∈ ls) : rs.length ≤ ls.length := sz_nodup (rk_lnk.nodup hr) fun z hz => (hm z).1 hz
theorem net_ok {k : Nat} {rs ls ss : List Lnk} {c s : D} (hr : rs.Pairwise llt) (hm : ∀ a, a ∈ rs ↔ a ∈ ls) (h : ∀ l ∈ ls, LkG l) (hl : ls.length < 300) (ec : c = .list (ls.map ld) ∨ c = .tuple (ls.map ld)) (hs : ∀ l ∈ ss, LkG l) (hsl : ss.length < 300) (es : s = .list (ss.map ld) ∨ s = .tuple (ss.map ld)) :
    sem pds (k + 5) 6 [.fr c, .fr s] = .ok (.ow (.list ((netL (rs.filter fun l => decide (l ∉ ss))).map ld))) [.fr c, .fr s] := by
  have n1 := need_is (k := k + 1) hr hm h hl ec
  have hg : ∀ l ∈ rs, LkG l := fun l hl => h l ((hm l).1 hl)
  have lr := len_is hr hm
  have n2 := left_ok (k := k) hg (by omega) hs hsl es
  have lf : (rs.filter fun l => decide (l ∉ ss)).length ≤ rs.length := List.length_filter_le ..
  have n3 := net_of_ok (k := k + 3) (c := .list ((rs.filter fun l => decide (l ∉ ss)).map ld)) rfl (fun l hl => hg l (List.mem_filter.mp hl).1) (by omega)
  rw [e6]
  generalize (netL (rs.filter fun l => decide (l ∉ ss))).map ld = NL at *
  generalize (rs.filter fun l => decide (l ∉ ss)).map ld = R2 at *
  generalize rs.map ld = R at *
  simp [b6, n1, n2, n3]
end Lw

set_option Elab.async false
set_option linter.all false
set_option maxRecDepth 100000
set_option maxHeartbeats 1000000
namespace Lw
open PySem PySem.Spec PyProof.Rows L2 FK
/-! ### the growing set of the law -/
theorem near_turn {tb : Nat → SE} {c s x3 : D} {f : List Str} {l : Lnk} (hl : LkG l) (hf : ∀ z ∈ f, Nm z) (hfl : f.length ≤ 2000) :
    b16f0 tb [.fr c, .fr s, .ow (.list (f.map .str)), .fr x3, .fr (ld l)] = .nx [.fr c, .fr s, .ow (.list ((grow f l).map .str)), .fr x3, .fr (ld l)] := by
  have u2 : gIx (ld l) (.int 2) = some (.fr (.str l.x)) := gIxT_at2
  have u3 : gIx (ld l) (.int 3) = some (.fr (.str l.y)) := gIxT_at3
  have g1 := gInL_texts (sok hl.2.2.2.2.1) fun z hz => sok (hf z hz)
  have g2 := gInL_texts (sok hl.2.2.2.2.2.1) fun z hz => sok (hf z hz)
  have lt : (f.map PyData.str).length < sizeLine := by rw [List.length_map, szL]; omega
  unfold grow
  by_cases h1 : l.x ∈ f
  · rw [decide_eq_true h1] at g1 ⊢
    by_cases h2 : l.y ∈ f
    · rw [decide_eq_true h2] at g2 ⊢
      rw [if_pos rfl]
      generalize f.map PyData.str = F at *
      generalize ld l = LD at *
      simp [b16f0, u2, u3, g1, g2]
    · rw [decide_eq_false h2] at g2 ⊢
      rw [if_neg (by simp), if_pos h1, List.map_append]
      generalize f.map PyData.str = F at *
      generalize ld l = LD at *
      simp [b16f0, u2, u3, g1, g2, lt]
  · rw [decide_eq_false h1] at g1 ⊢
    by_cases h2 : l.y ∈ f
    · rw [decide_eq_true h2] at g2 ⊢
      rw [if_neg (by simp), if_neg h1, List.map_append]
      generalize f.map PyData.str = F at *
      generalize ld l = LD at *
      simp [b16f0, u2, u3, g1, g2, lt]
    · rw [decide_eq_false h2] at g2 ⊢
      rw [if_pos rfl]
      generalize f.map PyData.str = F at *
      generalize ld l = LD at *
      simp [b16f0, u2, u3, g1, g2]
theorem nm_grow {f : List Str} {l : Lnk} (hl : LkG l) (hf : ∀ z ∈ f, Nm z) : ∀ z ∈ grow f l, Nm z := fun z hz => by
  unfold grow at hz
  split at hz
  · exact hf z hz
  · rcases List.mem_append.mp hz with w | w
    · exact hf z w
    · rw [List.mem_singleton] at w
      subst w
      split
      · exact hl.2.2.2.2.2.1
      · exact hl.2.2.2.2.1
theorem nm_fold : ∀ {lot : List Lnk} {f : List Str}, (∀ l ∈ lot, LkG l) → (∀ z ∈ f, Nm z) → ∀ z ∈ lot.foldl grow f, Nm z
  | [], _, _, h => h
  | l :: lot, f, hl, h => nm_fold (lot := lot) (fun m hm => hl m (List.mem_cons_of_mem _ hm)) (nm_grow (hl l List.mem_cons_self) h)
theorem grow_nd {f : List Str} {l : Lnk} (h : f.Nodup) : (grow f l).Nodup := by
  unfold grow
  by_cases e : decide (l.x ∈ f) = decide (l.y ∈ f)
  · rw [if_pos e]; exact h
  · rw [if_neg e]
    refine List.nodup_append.mpr ⟨h, by simp, fun a ha b hb => ?_⟩
    rw [List.mem_singleton] at hb
    subst hb
    intro w
    subst w
    by_cases hx : l.x ∈ f
    · rw [if_pos hx] at ha; exact e (by simp [hx, ha])
    · rw [if_neg hx] at ha; exact hx ha
theorem fold_nd : ∀ {lot : List Lnk} {f : List Str}, f.Nodup → (lot.foldl grow f).Nodup
  | [], _, h => h
  | l :: lot, f, h => fold_nd (lot := lot) (grow_nd h)
theorem rep_nd {lot : List Lnk} {f : List Str} (h : f.Nodup) : ∀ n, (Nat.repeat (round lot) n f).Nodup
  | 0 => h
  | n + 1 => fold_nd (rep_nd h n)
theorem rep_rch {lot : List Lnk} {a : Str} : ∀ n, ∀ z ∈ Nat.repeat (round lot) n [a], Rch (Of lot) a z
  | 0 => fun z hz => by rw [List.mem_singleton.mp hz]; exact .refl
  | n + 1 => fold_rch (fun _ h => h) (rep_rch n)
theorem rch_len {lot : List Lnk} {a : Str} {f : List Str} (nd : f.Nodup) (h : ∀ z ∈ f, Rch (Of lot) a z) : f.length ≤ 1 + 2 * lot.length := by
  have h := sz_nodup (us := a :: lot.flatMap fun l => [l.x, l.y]) nd fun z hz => by
    rcases (h z hz).ends with e | ⟨l, hl, e⟩
    · rw [e]; exact List.mem_cons_self
    · exact List.mem_cons_of_mem _ (List.mem_flatMap.mpr ⟨l, hl, by simp [e]⟩)
  rw [List.length_cons, flat2 (fun _ => rfl)] at h
  omega
theorem near_ok {k : Nat} {lot : List Lnk} {z : Str} (hl : ∀ l ∈ lot, LkG l) (hz : Nm z) (hn : lot.length ≤ 300) : sem pds (k + 1) 16 [.fr (.list (lot.map ld)), .fr (.str z)] = .ok (.ow (.list ((near lot z).map .str))) [.fr (.list (lot.map ld)), .fr (.str z)] := by
  have gl : gList [.str z] = some (.ow (.list [.str z])) := gList_of (by simp)
  have glen : gLen [.list (lot.map ld)] = some (.fr (.int (lot.length : Nat))) := by rw [gLen_list, List.length_map]
  have grg : gRng1 [.int (lot.length : Nat)] = some (rngL 0 lot.length) := by rw [rng1_ok (by omega) (by omega)]; rfl
  have it : itD (.list (lot.map ld)) = some (lot.map ld) := rfl
  obtain ⟨⟨y3, y4⟩, f1, _⟩ := forR_fold (g := gNm 3) (b := b16f1 (sem pds k)) (fun (i : Nat) => PyData.int (i : Int)) (fun (f : List Str) (j : B × B) => [.fr (.list (lot.map ld)), .fr (.str z), .ow (.list (f.map .str)), j.1, j.2]) (fun f _ => round lot f)
    (fun n f j => f = Nat.repeat (round lot) n [z]) (as := List.range lot.length) (s := [z]) (j := (.no, .no)) 0 rfl (fun i a s j ha hs => by
      rw [Nat.zero_add] at hs
      subst hs
      have nd := rep_nd (lot := lot) (f := [z]) (by simp) i
      have rc := rep_rch (lot := lot) (a := z) i
      refine ⟨[.fr (.list (lot.map ld)), .fr (.str z), .ow (.list ((Nat.repeat (round lot) i [z]).map .str)), .fr (.int a), j.2], by simp, ?_⟩
      generalize hf : Nat.repeat (round lot) i [z] = f0 at *
      have hf0 : ∀ w ∈ f0, Nm w := fun w hw => by
        rcases (rc w hw).ends with e | ⟨l, h1, e | e⟩
        · rw [e]; exact hz
        · rw [e]; exact (hl l h1).2.2.2.2.1
        · rw [e]; exact (hl l h1).2.2.2.2.2.1
      obtain ⟨y4, q1, _⟩ := forR_fold (g := gNm 4) (b := b16f0 (sem pds k)) ld (fun (f : List Str) (j : B) => [.fr (.list (lot.map ld)), .fr (.str z), .ow (.list (f.map .str)), .fr (.int a), j]) grow
        (fun n f j => (∀ w ∈ f, Nm w) ∧ f.Nodup ∧ ∀ w ∈ f, Rch (Of lot) z w) (as := lot) (s := f0) (j := j.2) 0 ⟨hf0, nd, rc⟩ (fun i l f j hi ⟨h1, h2, h3⟩ => by
          have hm := List.mem_of_getElem? hi
          have := rch_len h2 h3
          exact ⟨_, by simp, .fr (ld l), .inl (near_turn (hl l hm) h1 (by omega)), nm_grow (hl l hm) h1, grow_nd h2, grow_rch hm h3⟩)
      refine ⟨(.fr (.int a), y4), .inl ?_, by rw [Nat.zero_add]; show _ = round lot (Nat.repeat (round lot) i [z]); rw [hf]⟩
      show b16f1 (sem pds k) _ = .nx [_, _, .ow (.list ((round lot f0).map .str)), _, _]
      have e : round lot f0 = lot.foldl grow f0 := rfl
      rw [e]
      simp [b16f1, it, q1])
  rw [← rngL_map, FK.fold_const, List.length_range, ← rounds_repeat] at f1
  have f1 : forR (gNm 3) (b16f1 (sem pds k)) (rngL 0 lot.length) [.fr (.list (lot.map ld)), .fr (.str z), .ow (.list [.str z]), .no, .no] = .nx [.fr (.list (lot.map ld)), .fr (.str z), .ow (.list ((near lot z).map .str)), y3, y4] := f1
  rw [e16]
  generalize lot.map ld = L at *
  generalize (near lot z).map PyData.str = N at *
  simp [b16, gl, glen, grg, f1]
/-- due: what lesser links don't join -/
theorem nm_near {lot : List Lnk} {a : Str} (hl : ∀ l ∈ lot, LkG l) (ha : Nm a) : ∀ z ∈ near lot a, Nm z := fun z hz => by
  rcases (mem_near.1 hz).ends with e | ⟨l, h1, e | e⟩
  · rw [e]; exact ha
  · rw [e]; exact (hl l h1).2.2.2.2.1
  · rw [e]; exact (hl l h1).2.2.2.2.2.1
end Lw

set_option Elab.async false
set_option linter.all false
set_option maxRecDepth 100000
set_option maxHeartbeats 1000000
namespace Lw
open PySem PySem.Spec PyProof.Rows L2 FK
theorem pure_ld {l : Lnk} : pureD (ld l) = true := by simp [ld_eq, pureD]
theorem links_turn {k n : Nat} {d s1 s2 e0 : D} {E : List D} {fs : List Lnk} {x5 x6 : B} (hD : Dr n d) (hn : n ≤ 400000) (hE : E ≠ []) (hl : E.length ≤ 2000) (hP : ∀ p ∈ E, Pr p) (hf : ∀ l ∈ fs, LkG l) (hfl : fs.length ≤ 1000) (h6 : pureB x6 = true ∨ isFr x6 = true) :
    ∃ (l : Lnk) (d' : D) (b : Bool), LkG l ∧ Dr (n + 6) d' ∧ b13f0 (sem pds (k + 3)) [.ow d, .fr s1, .fr s2, .fr (.list E), .ow (.list (fs.map ld)), .fr e0, x6] = .nx [.ow d', .fr s1, .fr s2, .fr (.list E), .ow (.list ((fs ++ [l]).map ld)), .fr e0, .fr (.bool b)] := by
  obtain ⟨r, d1, a1, a2, a3, a4⟩ := next_ok (k := k + 2) (s := 8) hD (by omega) (by decide) (by decide)
  obtain ⟨l1, d2, b1, b2, b3⟩ := link_ok (k := k) a1 (by omega) hE hl hP
  have g1 : gNe (.list (fs.map ld)) (.list []) = some (.fr (.bool (!(fs.map ld).isEmpty))) := gNe_nil
  have g2 : gList [] = some (.ow (.list [])) := gList_of (by simp)
  have hlt : (fs.map ld).length < sizeLine := by rw [List.length_map, szL]; omega
  have hp1 := a1.pure
  have ok1 : okBack 4 (.list (fs.map ld)) (.fr (.bool (!(fs.map ld).isEmpty))) [.ow d1, .fr s1, .fr s2, .fr (.list E), .ow (.list (fs.map ld)), .fr e0, x6] [.ow d1, .fr s1, .fr s2, .fr (.list E), .fr (.list (fs.map ld)), .fr e0, x6] = true := okBack_of rfl rfl (by simp [hp1, h6])
  by_cases hr : r = 0
  · by_cases he : fs = []
    · subst he
      refine ⟨l1, d2, false, b1, b2.mono (by omega), ?_⟩
      simp at g1 ok1 hlt
      simp [b13f0, a4, hr, g1, g2, ok1, b3, hlt]
    · obtain ⟨x, d3, c1, c2, c3⟩ := pick_ok (k := k + 1) (xs := fs.map ld) a1 (by omega) (by simpa using he) (by rw [List.length_map]; omega)
      obtain ⟨l, hl1, rfl⟩ := List.mem_map.mp c1
      have hp3 := c2.pure
      have ok2 : okBack 4 (.list (fs.map ld)) (.fr (ld l)) [.ow d1, .fr s1, .fr s2, .fr (.list E), .ow (.list (fs.map ld)), .fr e0, .fr (.bool true)] [.ow d3, .fr s1, .fr s2, .fr (.list E), .fr (.list (fs.map ld)), .fr e0, .fr (.bool true)] = true := okBack_of (by simp [pure_ld]) rfl (by simp [hp3])
      have hne : (fs.map ld).isEmpty = false := by cases fs with
        | nil => exact absurd rfl he
        | cons _ _ => rfl
      refine ⟨l, d3, true, hf l hl1, c2.mono (by omega), ?_⟩
      rw [hne, Bool.not_false] at g1 ok1
      generalize hL : fs.map ld = LL at *
      simp [b13f0, a4, hr, g1, g2, ok1, ok2, c3, hlt, hL]
  · refine ⟨l1, d2, false, b1, b2.mono (by omega), ?_⟩
    generalize hL : fs.map ld = LL at *
    simp [b13f0, a4, hr, b3, hlt, hL]
theorem links_ok {k n m : Nat} {d : D} {zs : List Str} (hD : Dr n d) (hn : n ≤ 100000) (hm : m ≤ 300) (h2 : 2 ≤ zs.length) (hz : zs.length ≤ 12) (hN : (∀ z ∈ zs, Nm z) ∧ zs.Pairwise slt) :
    ∃ (fs : List Lnk) (d' : D), fs.length ≤ m ∧ (∀ l ∈ fs, LkG l) ∧ Dr (n + 5 + 6 * m) d' ∧ sem pds (k + 4) 13 [.ow d, .fr (.int m), .fr (.list (zs.map .str))] = .ok (.ow (.list (fs.map ld))) [.ow d', .fr (.int m), .fr (.list (zs.map .str))] := by
  obtain ⟨E, bb, d1, e1, e2, e3, e4, e5, e6⟩ := pairs_ok (k := k) hD (by omega) h2 hz hN
  obtain ⟨r, d2, a1, a2, a3, a4⟩ := next_ok (k := k + 2) (s := (m : Int) + 1) e5 (by omega) (by omega) (by omega)
  have hg : gRng1 [.int r] = some (rngL 0 r.toNat) := rng1_ok a2 (by omega)
  have hr : (rngL 0 r.toNat).length = r.toNat := by simp [rngL]
  have hgl : gList [] = some (.ow (.list [])) := gList_of (by simp)
  obtain ⟨ρ', f1, fs, d3, x5, x6, f2, f3, f4, f5⟩ := forR_inv (g := gNm 5) (b := b13f0 (sem pds (k + 3))) (fun i ρ => ∃ (fs : List Lnk) (d' : D) (x5 x6 : B), fs.length = i ∧ (∀ l ∈ fs, LkG l) ∧ ((i ≤ m → Dr (n + 5 + 6 * i) d') ∧ (pureB x6 = true ∨ isFr x6 = true)) ∧
    ρ = [.ow d', .fr (.int m), .fr (.list (zs.map .str)), .fr (.list E), .ow (.list (fs.map ld)), x5, x6]) (ds := rngL 0 r.toNat)
    (ρ := [.ow d2, .fr (.int m), .fr (.list (zs.map .str)), .fr (.list E), .ow (.list []), .no, .no]) ⟨[], d2, .no, .no, rfl, (fun l hl => nomatch hl), ⟨fun _ => a1, .inl rfl⟩, rfl⟩
    (fun i e ρ he ⟨fs, d', x5, x6, h1, h2, h3, h4⟩ => by
      subst h4
      have hi : i < r.toNat := by rw [← hr]; exact (List.getElem?_eq_some_iff.mp he).1
      obtain ⟨l, d4, b, c1, c2, c3⟩ := links_turn (k := k) (s1 := .int m) (s2 := .list (zs.map .str)) (e0 := e) (x5 := x5) (h3.1 (by omega)) (by omega) e2 e3 e4 h2 (by omega) h3.2
      refine ⟨_, by simp, _, .inl c3, fs ++ [l], d4, _, _, by simp [h1], fun x hx => ?_, ⟨fun _ => c2.mono (by omega), .inl rfl⟩, rfl⟩
      rcases List.mem_append.mp hx with w | w
      · exact h2 x w
      · rw [List.mem_singleton.mp w]; exact c1)
  subst f5
  rw [hr] at f2 f4
  refine ⟨fs, d3, by omega, f3, (f4.1 (by omega)).mono (by omega), ?_⟩
  rw [e13]
  cases bb with
  | fr E' =>
    cases e1
    simp [b13, e6, hgl, a4, hg, f1]
  | ow E' =>
    cases e1
    simp [b13, e6, hgl, a4, hg, f1]
  | _ => cases e1
end Lw

set_option Elab.async false
set_option linter.all false
set_option maxRecDepth 100000
set_option maxHeartbeats 1000000
namespace Lw
open PySem PySem.Spec PyProof.Rows L2 FK
/-! ### the law's own groups -/
theorem puts_loop {tb : Nat → SE} {c F L : D} {fs zs : List Str} {V : D} {FF : List D} {A Bt : D} {ps : List (D × D)} {x6 : B} (hg : gAdd A Bt = some (.fr V)) (ht : TxtK ps) (hl : ps.length + zs.length < 900000) :
    ∃ y6, forR (gNm 6) (b17f0 tb) (zs.map .str) [.fr c, .ow (.dict ps), .ow (.list FF), .fr L, .fr A, .fr Bt, x6] = .nx [.fr c, .ow (.dict (putAll ps V zs)), .ow (.list FF), .fr L, .fr A, .fr Bt, y6] := by
  obtain ⟨y, q, _⟩ := forR_fold (g := gNm 6) (b := b17f0 tb) PyData.str (fun (p : List (D × D)) (j : B) => [.fr c, .ow (.dict p), .ow (.list FF), .fr L, .fr A, .fr Bt, j]) (fun p z => putT p z V)
    (fun n p j => TxtK p ∧ p.length ≤ ps.length + n) (as := zs) (s := ps) (j := x6) 0 ⟨ht, Nat.le_refl _⟩ (fun i z p j hi ⟨h1, h2⟩ => by
      have := (List.getElem?_eq_some_iff.mp hi).1
      have pc := putC_str (z := z) (v := V) h1 (by omega)
      have l2 : (putT p z V).length ≤ p.length + 1 := len_dput
      exact ⟨_, by simp; exact rfl, .fr (.str z), .inl (by simp [b17f0, hg, pc]), h1.put, by omega⟩)
  exact ⟨y, q⟩
theorem groups_turn {tb : Nat → SE} {c : D} {ps : List (D × D)} {G : Str → List Str} {fs : List Lnk} {l : Lnk} {x4 x5 x6 : B} (hG : GD ps G) (hl : LkG l) (hfs : fs.length ≤ 1000) (hps : ps.length ≤ 500000)
    (hx : (G l.x).length ≤ 601) (hy : (G l.y).length ≤ 601) (nx : ∀ z ∈ G l.x, Nm z) (h4 : Fz x4) (h5 : Fz x5) (h6 : Fz x6) :
    ∃ (ps' : List (D × D)) (y6 : B), b17f1 tb [.fr c, .ow (.dict ps), .ow (.list (fs.map ld)), .fr (ld l), x4, x5, x6] = .nx [.fr c, .ow (.dict ps'), .ow (.list ((if l.y ∈ G l.x then fs else fs ++ [l]).map ld)), .fr (ld l), .fr (gT G l.x), .fr (gT G l.y), y6]
      ∧ Fz y6 ∧ GD ps' (if l.y ∈ G l.x then G else gPut G l.x l.y) ∧ ps'.length ≤ ps.length + 1202 := by
  have g1 := hG.get l.x
  have g2 := hG.get l.y
  have u2 : gIx (ld l) (.int 2) = some (.fr (.str l.x)) := gIxT_at2
  have u3 : gIx (ld l) (.int 3) = some (.fr (.str l.y)) := gIxT_at3
  have t1 : gTuple [.str l.x] = some (.fr (.tuple [.str l.x])) := gTuple_of (by simp)
  have t2 : gTuple [.str l.y] = some (.fr (.tuple [.str l.y])) := gTuple_of (by simp)
  have gn : gNotIn (.str l.y) (gT G l.x) = some (.fr (.bool (!decide (l.y ∈ G l.x)))) := gNotInT_texts (sok hl.2.2.2.2.2.1) fun z hz => sok (nx z hz)
  have pT : ∀ z, pureB (.fr (gT G z)) = true := fun z => pureT_strs
  have pL : pureL (fs.map ld) = true := pureL_lds
  have h4' : pureB x4 = true ∨ isFr x4 = true := h4
  have h5' : pureB x5 = true ∨ isFr x5 = true := h5
  have h6' : pureB x6 = true ∨ isFr x6 = true := h6
  have ok1 : okBack 1 (.dict ps) (.fr (gT G l.x)) [.fr c, .ow (.dict ps), .ow (.list (fs.map ld)), .fr (ld l), x4, x5, x6] [.fr c, .fr (.dict ps), .ow (.list (fs.map ld)), .fr (ld l), x4, x5, x6] = true := okBack_of (pT _) rfl (by simp [pL, h4', h5', h6'])
  have ok2 : okBack 1 (.dict ps) (.fr (gT G l.y)) [.fr c, .ow (.dict ps), .ow (.list (fs.map ld)), .fr (ld l), x4, x5, x6] [.fr c, .fr (.dict ps), .ow (.list (fs.map ld)), .fr (ld l), x4, x5, x6] = true := okBack_of (pT _) rfl (by simp [pL, h4', h5', h6'])
  have lt : (fs.map ld).length < sizeLine := by rw [List.length_map, szL]; omega
  by_cases hin : l.y ∈ G l.x
  · rw [if_pos hin, if_pos hin]
    rw [decide_eq_true hin] at gn
    refine ⟨ps, x6, ?_, h6, hG, Nat.le_add_right _ _⟩
    generalize gT G l.x = A at *
    generalize gT G l.y = Bt at *
    generalize fs.map ld = FS at *
    generalize ld l = LD at *
    simp [b17f1, u2, u3, g1, g2, t1, t2, ok1, ok2, gn]
  · rw [if_neg hin, if_neg hin]
    rw [decide_eq_false hin] at gn
    have ga : gAdd (gT G l.x) (gT G l.y) = some (.fr (.tuple ((G l.x ++ G l.y).map .str))) := gAddT_strs (by omega)
    have it : itD (.tuple ((G l.x ++ G l.y).map .str)) = some ((G l.x ++ G l.y).map .str) := rfl
    obtain ⟨y6, lp⟩ := puts_loop (tb := tb) (c := c) (F := c) (fs := []) (L := ld l) (FF := (fs ++ [l]).map ld) (x6 := x6) (zs := G l.x ++ G l.y) (ps := ps) ga hG.1 (by rw [List.length_append]; omega)
    have y6' : Fz y6 ∨ True := .inr True.intro
    have hy6 : ∃ y6, Fz y6 ∧ forR (gNm 6) (b17f0 tb) ((G l.x ++ G l.y).map .str) [.fr c, .ow (.dict ps), .ow (.list ((fs ++ [l]).map ld)), .fr (ld l), .fr (gT G l.x), .fr (gT G l.y), x6] = .nx [.fr c, .ow (.dict (putAll ps (.tuple ((G l.x ++ G l.y).map .str)) (G l.x ++ G l.y))), .ow (.list ((fs ++ [l]).map ld)), .fr (ld l), .fr (gT G l.x), .fr (gT G l.y), y6] := by
      obtain ⟨y, q, hq⟩ := forR_fold (g := gNm 6) (b := b17f0 tb) PyData.str (fun (p : List (D × D)) (j : B) => [.fr c, .ow (.dict p), .ow (.list ((fs ++ [l]).map ld)), .fr (ld l), .fr (gT G l.x), .fr (gT G l.y), j]) (fun p z => putT p z (.tuple ((G l.x ++ G l.y).map .str)))
        (fun n p j => TxtK p ∧ p.length ≤ ps.length + n ∧ Fz j) (as := G l.x ++ G l.y) (s := ps) (j := x6) 0 ⟨hG.1, Nat.le_refl _, h6⟩ (fun i z p j hi ⟨h1, h2, _⟩ => by
          have hi2 := (List.getElem?_eq_some_iff.mp hi).1
          rw [List.length_append] at hi2
          have pc := putC_str (z := z) (v := .tuple ((G l.x ++ G l.y).map .str)) h1 (by omega)
          have l2 : (putT p z (.tuple ((G l.x ++ G l.y).map .str))).length ≤ p.length + 1 := len_dput
          generalize PyData.tuple ((G l.x ++ G l.y).map .str) = V at *
          exact ⟨_, by simp; exact rfl, .fr (.str z), .inl (by simp [b17f0, ga, pc]), h1.put, by omega, .fr⟩)
      exact ⟨y, hq.2.2, q⟩
    obtain ⟨y6, f6, lp⟩ := hy6
    refine ⟨putAll ps (.tuple ((G l.x ++ G l.y).map .str)) (G l.x ++ G l.y), y6, ?_, f6, hG.put (putAll_txt hG.1) fun z => putAll_get, ?_⟩
    · rw [List.map_append (l₁ := fs)] at lp ⊢
      have e1 : List.map ld [l] = [ld l] := rfl
      rw [e1] at lp ⊢
      generalize putAll ps (PyData.tuple ((G l.x ++ G l.y).map .str)) (G l.x ++ G l.y) = Q at *
      generalize (G l.x ++ G l.y).map PyData.str = Z at *
      generalize gT G l.x = A at *
      generalize gT G l.y = Bt at *
      generalize fs.map ld = FS at *
      generalize ld l = LD at *
      simp [b17f1, u2, u3, g1, g2, t1, t2, ok1, ok2, gn, lt, ga, it, lp]
    · have := putAll_len (v := .tuple ((G l.x ++ G l.y).map .str)) (zs := G l.x ++ G l.y) (ps := ps)
      rw [List.length_append] at this
      omega
theorem groups_ok {k : Nat} {rs : List Lnk} (h : ∀ l ∈ rs, LkG l) (hl : rs.length ≤ 300) : sem pds (k + 1) 17 [.fr (.list (rs.map ld))] = .ok (.ow (.list ((netL rs).map ld))) [.fr (.list (rs.map ld))] := by
  obtain ⟨ρ', f1, ps, G, fs, x3, x4, x5, x6, f2, f3, f4, f5, f6, f7, f8, f9⟩ := forR_inv (g := gNm 3) (b := b17f1 (sem pds k)) (fun i ρ => ∃ (ps : List (D × D)) (G : Str → List Str) (fs : List Lnk) (x3 x4 x5 x6 : B), Grp (Of (rs.take i)) G ∧ GD ps G ∧ fs ++ netR (rs.take i) (rs.drop i) = netL rs ∧ ps.length ≤ i * 1202 ∧ Fz x4 ∧ Fz x5 ∧ Fz x6 ∧
      ρ = [.fr (.list (rs.map ld)), .ow (.dict ps), .ow (.list (fs.map ld)), x3, x4, x5, x6]) (ds := rs.map ld) (ρ := [.fr (.list (rs.map ld)), .ow (.dict []), .ow (.list []), .no, .no, .no, .no])
    ⟨[], gIni, [], .no, .no, .no, .no, grp_ini, GD.ini, rfl, Nat.le_refl _, .no, .no, .no, rfl⟩ (fun i e ρ he ⟨ps, G, fs, x3, x4, x5, x6, h1, h2, h3, h4, h5, h6, h7, h8⟩ => by
      subst h8
      rw [List.getElem?_map] at he
      obtain ⟨l, hx, rfl⟩ := Option.map_eq_some_iff.mp he
      have hi := (List.getElem?_eq_some_iff.mp hx).1
      have tk : rs.take (i + 1) = rs.take i ++ [l] := by rw [List.take_succ, hx]; rfl
      have dr : rs.drop i = l :: rs.drop (i + 1) := by
        rw [List.drop_eq_getElem_cons hi]
        rw [List.getElem?_eq_getElem hi] at hx
        cases hx; rfl
      have hm : l ∈ rs := List.mem_of_getElem? hx
      have sub : ∀ m ∈ rs.take i, LkG m := fun m hm => h m (List.mem_of_mem_take hm)
      have lk : (rs.take i).length ≤ 300 := by rw [List.length_take]; omega
      have q1 := h1.len l.x
      have q2 := h1.len l.y
      have fl : fs.length ≤ 300 := by
        have e := congrArg List.length h3
        rw [List.length_append] at e
        have := (netL_sub (r := rs)).length_le
        omega
      obtain ⟨ps', y6, t1, t0, t2, t3⟩ := groups_turn (tb := sem pds k) (c := .list (rs.map ld)) (fs := fs) (x4 := x4) (x5 := x5) (x6 := x6) h2 (h l hm) (by omega) (by
        have : i * 1202 ≤ 300 * 1202 := Nat.mul_le_mul_right _ (by omega)
        omega) (by omega) (by omega) (nm_grp h1 sub (h l hm).2.2.2.2.1) h5 h6 h7
      refine ⟨_, by simp [-List.getElem?_map], _, .inl t1, ps', _, _, _, _, _, _, ?_, t2, ?_, by rw [Nat.add_mul]; omega, .fr, .fr, t0, rfl⟩
      · rw [tk]
        split
        · rename_i w; exact h1.keep w
        · rename_i w; exact h1.put w
      · rw [tk]
        rw [dr] at h3
        unfold netR at h3
        by_cases w : l.y ∈ G l.x
        · rw [if_pos ((h1.mem _ _).1 w)] at h3
          rw [if_pos w]; exact h3
        · rw [if_neg fun z => w ((h1.mem _ _).2 z)] at h3
          rw [if_neg w, List.append_assoc]; exact h3)
  rw [List.length_map, List.drop_length] at f4
  have e : fs = netL rs := by
    rw [← f4]; unfold netR; simp
  subst e
  subst f9
  have gl : gList [] = some (.ow (.list [])) := gList_of (by simp)
  have hc : itD (.list (rs.map ld)) = some (rs.map ld) := rfl
  rw [e17]
  generalize rs.map ld = R at *
  simp [b17, gl, hc, f1]
/-! ### strikes -/
def lkA : Lnk := ⟨1, 1, "a", "b"⟩
def lkZ : Lnk := ⟨0, 0, "zz", "zzz"⟩
theorem lk_ab : LkG lkA := ⟨by decide, by decide, by decide, by decide, ⟨by decide +kernel, by decide +kernel, by decide +kernel⟩, ⟨by decide +kernel, by decide +kernel, by decide +kernel⟩, by unfold slt; decide +kernel⟩
theorem lk_zz : LkG lkZ := ⟨by decide, by decide, by decide, by decide, ⟨by decide +kernel, by decide +kernel, by decide +kernel⟩, ⟨by decide +kernel, by decide +kernel, by decide +kernel⟩, by unfold slt; decide +kernel⟩
theorem gone_ok {k n : Nat} {d : D} {lot : List Lnk} (hD : Dr n d) (hn : n ≤ 400000) (h : ∀ l ∈ lot, LkG l) (hl : lot.length ≤ 300) :
    ∃ (gs : List Lnk) (d' : D), (∀ l ∈ gs, LkG l) ∧ gs.length ≤ lot.length + 1 ∧ Dr (n + 302) d' ∧ sem pds (k + 3) 15 [.ow d, .fr (.list (lot.map ld))] = .ok (.ow (.list (gs.map ld))) [.ow d', .fr (.list (lot.map ld))] := by
  obtain ⟨r, d1, a1, a2, a3, a4⟩ := next_ok (k := k + 1) (s := 5) hD (by omega) (by decide) (by decide)
  have gl0 : gList [] = some (.ow (.list [])) := gList_of (by simp)
  have ge : gEq (.list (lot.map ld)) (.list []) = some (.fr (.bool (lot.map ld).isEmpty)) := gEq_nil
  have gt1 : gTuple [.int 1, .int 1, .str "a", .str "b"] = some (.fr (ld lkA)) := gTuple_of (by simp)
  have gl1 : gList [ld lkA] = some (.ow (.list [ld lkA])) := gList_of (by simp)
  have gt2 : gTuple [.int 0, .int 0, .str "zz", .str "zzz"] = some (.fr (ld lkZ)) := gTuple_of (by simp)
  have gl2 : gList [ld lkZ] = some (.ow (.list [ld lkZ])) := gList_of (by simp)
  obtain ⟨t, d2, b1, b2, b3, b4⟩ := next_ok (k := k + 1) (s := 2) a1 (by omega) (by decide) (by decide)
  have itL : itD (.list (lot.map ld)) = some (lot.map ld) := rfl
  have first : (r = 0 ∨ lot = []) → ∃ (gs : List Lnk) (d' : D), (∀ l ∈ gs, LkG l) ∧ gs.length ≤ lot.length + 1 ∧ Dr (n + 302) d' ∧ sem pds (k + 3) 15 [.ow d, .fr (.list (lot.map ld))] = .ok (.ow (.list (gs.map ld))) [.ow d', .fr (.list (lot.map ld))] := fun hh => by
    refine ⟨List.replicate t.toNat lkA, d2, fun l hl => ?_, by rw [List.length_replicate]; omega, b1.mono (by omega), ?_⟩
    · rw [List.eq_of_mem_replicate hl]; exact lk_ab
    · have e : (List.replicate t.toNat [ld lkA]).flatten = (List.replicate t.toNat lkA).map ld := by
        rw [List.map_replicate]
        generalize t.toNat = j
        induction j with
        | zero => rfl
        | succ j ih => rw [List.replicate_succ, List.replicate_succ, List.flatten_cons, ih]; rfl
      have t1 : 0 ≤ t ∧ t ≤ 1000 := ⟨by omega, by omega⟩
      rw [← e, e15]
      generalize ld lkA = AB at *
      rcases hh with h0 | h0
      · generalize lot.map ld = L at *
        simp [b15, a4, h0, gt1, gl1, b4, t1]
      · subst h0
        by_cases hr : r = 0
        · simp [b15, a4, hr, gt1, gl1, b4, t1]
        · have ge : gEq (.list []) (.list []) = some (.fr (.bool true)) := ge
          simp [b15, a4, hr, gt1, gl1, b4, t1, gl0, ge]
  by_cases h0 : r = 0
  · exact first (.inl h0)
  by_cases he : lot = []
  · exact first (.inr he)
  have hne : (lot.map ld).isEmpty = false := by
    cases lot with
    | nil => exact absurd rfl he
    | cons _ _ => rfl
  rw [hne] at ge
  by_cases h1 : r = 1
  · obtain ⟨x, d3, c1, c2, c3⟩ := pick_ok (k := k) (xs := lot.map ld) a1 (by omega) (by simpa using he) (by rw [List.length_map]; omega)
    obtain ⟨l, hl1, rfl⟩ := List.mem_map.mp c1
    have u2 : gIx (ld l) (.int 2) = some (.fr (.str l.x)) := gIxT_at2
    have key := lcR_pure (vs := [5]) (g := gNm 5) (ct := b15c1 (sem pds (k + 2))) (fe := b15e1 (sem pds (k + 2))) (fun e => [.ow d3, .fr (.list (lot.map ld)), .fr (.int r), .fr (.str l.x), .no, .fr e]) (fun e => match gIn (.str l.x) e with | some (.fr (.bool b)) => b | _ => false) id (ds := lot.map ld) (acc := []) (ρ := [.ow d3, .fr (.list (lot.map ld)), .fr (.int r), .fr (.str l.x), .no, .no]) (fun e he => by
      obtain ⟨m, hm, rfl⟩ := List.mem_map.mp he
      have g := gIn_end (s := l.x) (l := m) (sok (h l hl1).2.2.2.2.1) (strOk_ld h m hm)
      refine ⟨by simp, ?_, fun _ => ⟨.fr (ld m), rfl, rfl⟩, by simp⟩
      rw [g]
      generalize (decide (m.x = l.x) || decide (m.y = l.x)) = bb at *
      generalize ld m = LM at *
      simp [b15c1, g]) (by rw [szL, List.length_map, List.length_nil]; omega)
    rw [List.nil_append, List.map_id, List.filter_map] at key
    generalize ((fun e => match gIn (.str l.x) e with | some (.fr (.bool b)) => b | _ => false) ∘ ld) = p at key
    refine ⟨lot.filter p, d3, fun m hm => h m (List.mem_filter.mp hm).1, Nat.le_trans (List.length_filter_le ..) (Nat.le_succ _), c2.mono (by omega), ?_⟩
    rw [e15]
    generalize (lot.filter p).map ld = L2 at *
    generalize lot.map ld = L at *
    generalize ld l = LD at *
    subst h1
    simp [b15, a4, gl0, ge, c3, u2, itL, key]
  · obtain ⟨acc, ρ', q1, gs, d3, q2, q3, q4, q5, q6⟩ := lcR_inv (vs := [5]) (g := gNm 5) (ct := b15c0 (sem pds (k + 2))) (fe := b15e0 (sem pds (k + 2)))
      (fun i a ρ => ∃ (gs : List Lnk) (d' : D), a = gs.map ld ∧ gs.length ≤ i ∧ (∀ l ∈ gs, LkG l) ∧ (i ≤ 300 → Dr (n + 1 + i) d') ∧ ρ = [.ow d', .fr (.list (lot.map ld)), .fr (.int r), .no, .no, .no]) (ds := lot.map ld) (acc := []) (ρ := [.ow d1, .fr (.list (lot.map ld)), .fr (.int r), .no, .no, .no])
      ⟨[], d1, rfl, Nat.le_refl _, (fun l hl => nomatch hl), fun _ => a1, rfl⟩ (by rw [szL, List.length_map, List.length_nil]; omega) (fun i a ρ ⟨gs, d', e, h1, _⟩ => by rw [e, List.length_map, List.length_nil]; omega) (fun i e a ρ he ⟨gs, d', h2, h3, h4, h5, h6⟩ => by
        subst h2 h6
        rw [List.getElem?_map] at he
        obtain ⟨l, hx, rfl⟩ := Option.map_eq_some_iff.mp he
        have hi := (List.getElem?_eq_some_iff.mp hx).1
        obtain ⟨u, d4, c1, c2, c3, c4⟩ := next_ok (k := k + 1) (s := 3) (h5 (by omega)) (by omega) (by decide) (by decide)
        refine ⟨[.ow d', .fr (.list (lot.map ld)), .fr (.int r), .no, .no, .fr (ld l)], by simp, ?_⟩
        by_cases hu : u = 0
        · refine .inr ⟨[.ow d4, .fr (.list (lot.map ld)), .fr (.int r), .no, .no, .fr (ld l)], ?_, .fr (ld l), ld l, [.ow d4, .fr (.list (lot.map ld)), .fr (.int r), .no, .no, .fr (ld l)], rfl, rfl, gs ++ [l], d4, by simp, by simp; omega, fun m hm => ?_, fun _ => c1, by simp⟩
          · generalize lot.map ld = L at *
            generalize ld l = LD at *
            simp [b15c0, c4, hu]
          · rcases List.mem_append.mp hm with w | w
            · exact h4 m w
            · rw [List.mem_singleton.mp w]; exact h l (List.mem_of_getElem? hx)
        · refine .inl ⟨[.ow d4, .fr (.list (lot.map ld)), .fr (.int r), .no, .no, .fr (ld l)], ?_, gs, d4, rfl, by omega, h4, fun _ => c1, by simp⟩
          generalize lot.map ld = L at *
          generalize ld l = LD at *
          simp [b15c0, c4, hu])
    subst q2 q6
    rw [List.length_map] at q3 q5
    have hD3 : Dr (n + 302) d3 := (q5 hl).mono (by omega)
    by_cases h2 : r = 2
    · refine ⟨gs ++ [lkZ], d3, fun m hm => ?_, by simp; omega, hD3, ?_⟩
      · rcases List.mem_append.mp hm with w | w
        · exact q4 m w
        · rw [List.mem_singleton.mp w]; exact lk_zz
      · have ga : gAdd (.list (gs.map ld)) (.list [ld lkZ]) = some (.ow (.list ((gs ++ [lkZ]).map ld))) := by
          rw [gAdd_list (by rw [List.length_map]; show _ + 1 ≤ _; omega), List.map_append]; rfl
        rw [e15]
        subst h2
        generalize (gs ++ [lkZ]).map ld = G2 at *
        generalize gs.map ld = GS at *
        generalize lot.map ld = L at *
        generalize ld lkZ = ZZ at *
        simp [b15, a4, gl0, ge, itL, q1, gt2, gl2, ga]
    · refine ⟨gs.reverse, d3, fun m hm => q4 m (List.mem_reverse.mp hm), by rw [List.length_reverse]; omega, hD3, ?_⟩
      have gr : gRev (.list (gs.map ld)) = some (.ow (.list (gs.reverse.map ld))) := by rw [List.map_reverse]; rfl
      rw [e15]
      generalize gs.reverse.map ld = G2 at *
      generalize gs.map ld = GS at *
      generalize lot.map ld = L at *
      simp [b15, a4, gl0, ge, itL, h0, h1, h2, q1, gr]
end Lw

set_option Elab.async false
set_option linter.all false
set_option maxRecDepth 100000
set_option maxHeartbeats 4000000
namespace Lw
open PySem PySem.Spec PyProof.Rows L2 FK
theorem many_ok {k n : Nat} {d : D} (hD : Dr n d) (hn : n ≤ 700000) : ∃ (q : Nat) (d' : D), 2 ≤ q ∧ q ≤ 12 ∧ Dr (n + 2) d' ∧ sem pds (k + 2) 14 [.ow d, .fr (.int 12)] = .ok (.fr (.int (q : Int))) [.ow d', .fr (.int 12)] := by
  obtain ⟨r, d1, a1, a2, a3, a4⟩ := next_ok (k := k) (s := 8) hD (by omega) (by decide) (by decide)
  rw [e14]
  by_cases hr : r = 0
  · obtain ⟨t, d2, b1, b2, b3, b4⟩ := next_ok (k := k) (s := 11) a1 (by omega) (by decide) (by decide)
    obtain ⟨q, hq⟩ : ∃ q : Nat, 2 + t = (q : Int) := ⟨(2 + t).toNat, by omega⟩
    exact ⟨q, d2, by omega, by omega, b1, by simp [b14, a4, hr, b4, hq]⟩
  · obtain ⟨t, d2, b1, b2, b3, b4⟩ := next_ok (k := k) (s := 4) a1 (by omega) (by decide) (by decide)
    obtain ⟨q, hq⟩ : ∃ q : Nat, 2 + t = (q : Int) := ⟨(2 + t).toNat, by omega⟩
    exact ⟨q, d2, by omega, by omega, b1, by simp [b14, a4, hr, b4, hq]⟩
theorem cutD_up {ds : List D} (j : Nat) : FK.cutD ds none (some (j : Int)) = ds.take j := by
  unfold FK.cutD
  rw [HT.sIx_none, HT.sIx_nat, List.drop_zero, Nat.sub_zero]
  rcases Nat.le_total j ds.length with h | h
  · rw [Nat.min_eq_left h]
  · rw [Nat.min_eq_right h, List.take_length, List.take_of_length_le h]
/-- due, as the law makes it -/
theorem due_loop {k : Nat} {ct : STs} {fe : SE} {rs : List Lnk} {x0 x1 x3 x4 x5 x6 x7 x8 x9 x10 x11 : B} (h : ∀ l ∈ rs, LkG l) (hl : rs.length ≤ 300)
    (hct : ∀ (i : Nat) (l : Lnk), l ∈ rs → ct [x0, x1, .fr (.list (rs.map ld)), x3, x4, x5, x6, x7, x8, x9, x10, x11, .fr (ld l), .fr (.int i)] = .ok (!decide (l.y ∈ near (rs.take i) l.x)) [x0, x1, .fr (.list (rs.map ld)), x3, x4, x5, x6, x7, x8, x9, x10, x11, .fr (ld l), .fr (.int i)])
    (hfe : ∀ ρ, fe ρ = sVar 12 ρ) : lcR [13, 12] (gTp 2 (gsCons (gNm 13) (gsCons (gNm 12) gsNil))) ct fe (pairsAt (rngL 0 (rs.map ld).length) (rs.map ld)) [] [x0, x1, .fr (.list (rs.map ld)), x3, x4, x5, x6, x7, x8, x9, x10, x11, .no, .no]
      = .ok (.ow (.list ((netL rs).map ld))) [x0, x1, .fr (.list (rs.map ld)), x3, x4, x5, x6, x7, x8, x9, x10, x11, .no, .no] := by
  have hlen : (pairsAt (rngL 0 (rs.map ld).length) (rs.map ld)).length = rs.length := by simp [pairsAt, rngL]
  obtain ⟨acc, ρ', q1, ds, q2, q3, q4, q5⟩ := lcR_inv (vs := [13, 12]) (g := gTp 2 (gsCons (gNm 13) (gsCons (gNm 12) gsNil))) (ct := ct) (fe := fe)
    (fun i a ρ => ∃ ds : List Lnk, a = ds.map ld ∧ ds.length ≤ i ∧ ds ++ dueR (rs.take i) (rs.drop i) = dueR [] rs ∧ ρ = [x0, x1, .fr (.list (rs.map ld)), x3, x4, x5, x6, x7, x8, x9, x10, x11, .no, .no]) (ds := pairsAt (rngL 0 (rs.map ld).length) (rs.map ld)) (acc := [])
    (ρ := [x0, x1, .fr (.list (rs.map ld)), x3, x4, x5, x6, x7, x8, x9, x10, x11, .no, .no]) ⟨[], rfl, Nat.le_refl _, rfl, rfl⟩ (by rw [szL, hlen, List.length_nil]; omega) (fun i a ρ ⟨ds, e, h1, _⟩ => by rw [e, List.length_map, List.length_nil]; omega)
    (fun i e a ρ he ⟨ds, h1, h2, h3, h4⟩ => by
      subst h1 h4
      obtain ⟨z, hz, rfl⟩ := enum_get he
      rw [List.getElem?_map] at hz
      obtain ⟨l, hx, rfl⟩ := Option.map_eq_some_iff.mp hz
      have hi := (List.getElem?_eq_some_iff.mp hx).1
      have tk : rs.take (i + 1) = rs.take i ++ [l] := by rw [List.take_succ, hx]; rfl
      have dr : rs.drop i = l :: rs.drop (i + 1) := by
        rw [List.drop_eq_getElem_cons hi]
        rw [List.getElem?_eq_getElem hi] at hx
        cases hx; rfl
      have hc := hct i l (List.mem_of_getElem? hx)
      have uf : dueR (rs.take i) (l :: rs.drop (i + 1)) = if l.y ∈ near (rs.take i) l.x then dueR (rs.take i ++ [l]) (rs.drop (i + 1)) else l :: dueR (rs.take i ++ [l]) (rs.drop (i + 1)) := by rw [dueR]
      rw [dr, uf] at h3
      refine ⟨[x0, x1, .fr (.list (rs.map ld)), x3, x4, x5, x6, x7, x8, x9, x10, x11, .fr (ld l), .fr (.int i)], by simp, ?_⟩
      by_cases w : l.y ∈ near (rs.take i) l.x
      · rw [if_pos w] at h3
        rw [decide_eq_true w] at hc
        exact .inl ⟨_, hc, ds, rfl, by omega, by rw [tk]; exact h3, by simp⟩
      · rw [if_neg w] at h3
        rw [decide_eq_false w] at hc
        exact .inr ⟨_, hc, .fr (ld l), ld l, _, by rw [hfe]; rfl, rfl, ds ++ [l], by simp, by simp; omega, by rw [tk, List.append_assoc]; exact h3, by simp⟩)
  rw [hlen, List.drop_length] at q4
  have e : ds = netL rs := by
    have : dueR (rs.take rs.length) [] = [] := rfl
    rw [this, List.append_nil, dueR_eq] at q4
    exact q4
  subst e
  rw [q1, q2, q5]
theorem near_test {k : Nat} {rs : List Lnk} {l : Lnk} {i : Nat} {x0 x1 x3 x4 x5 x6 x7 x8 x9 x10 x11 : B} (h : ∀ l ∈ rs, LkG l) (hl : rs.length ≤ 300) (hm : l ∈ rs) :
    sTest (sBin gNotIn (sBin gIx (sVar 12) (sC (.int 3))) (sCall (sem pds (k + 1) 16) (vVal (sSl (sVar 2) pNone (pSome (sVar 13))) (vVal (sBin gIx (sVar 12) (sC (.int 2))) vNil)))) [x0, x1, .fr (.list (rs.map ld)), x3, x4, x5, x6, x7, x8, x9, x10, x11, .fr (ld l), .fr (.int i)]
      = .ok (!decide (l.y ∈ near (rs.take i) l.x)) [x0, x1, .fr (.list (rs.map ld)), x3, x4, x5, x6, x7, x8, x9, x10, x11, .fr (ld l), .fr (.int i)] := by
  have hs : ∀ m ∈ rs.take i, LkG m := fun m hm => h m (List.mem_of_mem_take hm)
  have u2 : gIx (ld l) (.int 2) = some (.fr (.str l.x)) := gIxT_at2
  have u3 : gIx (ld l) (.int 3) = some (.fr (.str l.y)) := gIxT_at3
  have q := near_ok (k := k) (lot := rs.take i) (z := l.x) hs (h l hm).2.2.2.2.1 (by rw [List.length_take]; omega)
  have g : gSl (.list (rs.map ld)) none (some (i : Int)) = some (.ow (.list ((rs.take i).map ld))) := by
    show some (B.ow (.list (FK.cutD (rs.map ld) none (some (i : Int))))) = _
    rw [cutD_up, List.map_take]
  have gn : gNotIn (.str l.y) (.list ((near (rs.take i) l.x).map .str)) = some (.fr (.bool (!decide (l.y ∈ near (rs.take i) l.x)))) := by
    unfold gNotIn
    rw [inL_texts (sok (h l hm).2.2.2.2.2.1) fun z hz => sok (nm_near hs (h l hm).2.2.2.2.1 z hz)]; rfl
  generalize decide (l.y ∈ near (rs.take i) l.x) = bb at *
  generalize (near (rs.take i) l.x).map PyData.str = NR at *
  generalize (rs.take i).map ld = T at *
  generalize rs.map ld = R at *
  generalize ld l = LD at *
  simp [u2, u3, g, q, gn]
theorem rosy {ls : List Lnk} (h : ∀ l ∈ ls, LkG l) (hl : ls.length < 300) : ∃ rs : List Lnk, rs.Pairwise llt ∧ (∀ a, a ∈ rs ↔ a ∈ ls) ∧ rs.length ≤ ls.length ∧ (∀ l ∈ rs, LkG l) ∧ gSortedSet [.list (ls.map ld)] = some (.ow (.list (rs.map ld))) := by
  obtain ⟨rs, e, p, m, _⟩ := rk_lnk.rose ls
  refine ⟨rs, p, m, len_is p m, fun l hl => h l ((m l).1 hl), ?_⟩
  rw [ss_list (rose_links (strOk_ld h) hl), e]
theorem hand_turn {k : Nat} {s kk cl spt due : D} {d : D} {rs ls gs : List Lnk} {row : List Lnk} {x11 : B} {c g : D} (hd : pureB (.ow d) = true) (h11 : Fz x11) (ec : c = .list (ls.map ld) ∨ c = .tuple (ls.map ld)) (eg : g = .list (gs.map ld) ∨ g = .tuple (gs.map ld))
    (hls : ∀ l ∈ ls, LkG l) (hgs : ∀ l ∈ gs, LkG l) (hrs : ∀ l ∈ rs, LkG l) (hrl : rs.length ≤ 300) (hll : ls.length ≤ 300) (hgl : gs.length ≤ 310)
    (hn : sem pds k 6 [.fr c, .fr g] = .ok (.ow (.list (rs.map ld))) [.fr c, .fr g]) :
    ∃ y11, Fz y11 ∧ b18f0 (sem pds k) [.fr s, .ow d, .fr (.list (row.map ld)), .fr (.list (gs.map ld)), .fr kk, .fr cl, .fr spt, .fr (.list (ls.map ld)), .fr (.list (rs.map ld)), .fr c, .fr g, x11, .no, .no]
      = .nx [.fr s, .ow d, .fr (.list (row.map ld)), .fr (.list (gs.map ld)), .fr kk, .fr cl, .fr spt, .fr (.list (ls.map ld)), .fr (.list (rs.map ld)), .fr c, .fr g, y11, .no, .no] := by
  have g1 : gNe (.list (rs.map ld)) (.list (rs.map ld)) = some (.fr (.bool false)) := by
    rw [gNe_links (strOk_ld hrs) (strOk_ld hrs), decide_eq_true rfl]; rfl
  have g2 : gNe (.list (ls.map ld)) (.list (ls.map ld)) = some (.fr (.bool false)) := by
    rw [gNe_links (strOk_ld hls) (strOk_ld hls), decide_eq_true rfl]; rfl
  have g3 : gNe (.list (gs.map ld)) (.list (gs.map ld)) = some (.fr (.bool false)) := by
    rw [gNe_links (strOk_ld hgs) (strOk_ld hgs), decide_eq_true rfl]; rfl
  have i1 : gIsi "list" (.list (rs.map ld)) = some (.fr (.bool true)) := isiT (d := .list []) (by decide +kernel)
  have l1 : (rs.map ld).length < sizeLine := by rw [List.length_map, szL]; omega
  have t1 : gListOf [c] = some (.ow (.list (ls.map ld))) := by rcases ec with rfl | rfl <;> rfl
  have t2 : gListOf [g] = some (.ow (.list (gs.map ld))) := by rcases eg with rfl | rfl <;> rfl
  have p1 : pureB (.ow (.list (rs.map ld))) = true := pureL_lds
  have h11' : pureB x11 = true ∨ isFr x11 = true := h11
  refine ⟨.ow (.list (rs.map ld ++ [.str "x"])), .inl ?_, ?_⟩
  · show pureL (rs.map ld ++ [.str "x"]) = true
    exact pureL_all fun e he => by
      rcases List.mem_append.mp he with w | w
      · obtain ⟨l, _, rfl⟩ := List.mem_map.mp w
        simp [ld_eq, pureD]
      · rw [List.mem_singleton.mp w]; rfl
  · generalize rs.map ld = R at *
    generalize row.map ld = RW at *
    generalize ls.map ld = L at *
    generalize gs.map ld = GS at *
    have ok1 : ∀ b : B, pureB b = true → okBack 11 (.list R) b [.fr s, .ow d, .fr (.list RW), .fr (.list GS), .fr kk, .fr cl, .fr spt, .fr (.list L), .fr (.list R), .fr c, .fr g, .ow (.list R), .no, .no] [.fr s, .ow d, .fr (.list RW), .fr (.list GS), .fr kk, .fr cl, .fr spt, .fr (.list L), .fr (.list R), .fr c, .fr g, .fr (.list R), .no, .no] = true := fun b hb => okBack_of hb rfl (by simp [hd])
    have o1 := ok1 .no rfl
    have o2 := ok1 (.fr (.bool true)) rfl
    clear ok1
    simp [b18f0, hn, i1, o1, o2, g1, g2, g3, l1, t1, t2]
theorem cell04 {i : Nat} {c : Int} {s : D} {x1 x2 x3 x6 x7 x8 x9 x10 x11 : B} (hi : i < 100) (h11 : Fz x11) :
    ∃ y1 y2 y3 y6 y7 y8 y9 y10 y11 : B, Fz y11 ∧ b18f1 (sem pds 59) [.fr s, x1, x2, x3, .fr (.int i), .fr (.int c), x6, x7, x8, x9, x10, x11, .no, .no] = .nx [.fr s, y1, y2, y3, .fr (.int i), .fr (.int c), y6, y7, y8, y9, y10, y11, .no, .no] := by
  obtain ⟨d0, a1, a2⟩ := begun_ok (k := 58) (a := c) (b := (i : Int)) (by omega)
  obtain ⟨q, d1, b1, b2, b3, b4⟩ := many_ok (k := 57) a1 (by omega)
  obtain ⟨zs, d2, c1, c2, c3, c4⟩ := spots_ok (k := 56) (m := q) b3 (by omega) (by omega)
  obtain ⟨ls, d3, f1, f2, f3, f4⟩ := links_ok (k := 55) (m := 12) c3 (by omega) (by omega) (by omega) (by omega) c2
  have f4 : sem pds 59 13 [.ow d2, .fr (.int 12), .fr (.list (zs.map .str))] = .ok (.ow (.list (ls.map ld))) [.ow d3, .fr (.int 12), .fr (.list (zs.map .str))] := f4
  obtain ⟨gs, d4, e1, e2, e3, e4⟩ := gone_ok (k := 56) f3 (by omega) f2 (by omega)
  have gn : ∀ l ∈ ls, gNotIn (ld l) (.list (gs.map ld)) = some (.fr (.bool (!decide (l ∈ gs)))) := fun l hl => gNotIn_links (strOk_ld f2 l hl) (strOk_ld e1)
  have itL : itD (.list (ls.map ld)) = some (ls.map ld) := rfl
  have hp4 := e3.pure
  -- the unstruck ones
  have key := lcR_pure (vs := [12]) (g := gNm 12) (ct := b18c2 (sem pds 59)) (fe := b18e2 (sem pds 59)) (fun e => [.fr s, .ow d4, x2, .fr (.list (gs.map ld)), .fr (.int i), .fr (.int c), .fr (.list (zs.map .str)), .fr (.list (ls.map ld)), x8, x9, x10, x11, .fr e, .no]) (fun e => match gNotIn e (.list (gs.map ld)) with | some (.fr (.bool b)) => b | _ => false) id (ds := ls.map ld) (acc := [])
    (ρ := [.fr s, .ow d4, x2, .fr (.list (gs.map ld)), .fr (.int i), .fr (.int c), .fr (.list (zs.map .str)), .fr (.list (ls.map ld)), x8, x9, x10, x11, .no, .no]) (fun e he => by
      obtain ⟨m, hm, rfl⟩ := List.mem_map.mp he
      have g := gn m hm
      refine ⟨by simp, ?_, fun _ => ⟨.fr (ld m), rfl, rfl⟩, by simp⟩
      rw [g]
      generalize decide (m ∈ gs) = bb at *
      generalize gs.map ld = GS at *
      generalize ld m = LM at *
      simp [b18c2, g]) (by rw [szL, List.length_map, List.length_nil]; omega)
  rw [List.nil_append, List.map_id, List.filter_map] at key
  have ef : (ls.filter ((fun e => match gNotIn e (.list (gs.map ld)) with | some (.fr (.bool b)) => b | _ => false) ∘ ld)) = ls.filter fun l => decide (l ∉ gs) := List.filter_congr fun l hl => by
    show (match gNotIn (ld l) (.list (gs.map ld)) with | some (.fr (.bool b)) => b | _ => false) = _
    rw [gn l hl]
    simp
  rw [ef] at key
  have hU : ∀ l ∈ ls.filter fun l => decide (l ∉ gs), LkG l := fun l hl => f2 l (List.mem_filter.mp hl).1
  have lU : (ls.filter fun l => decide (l ∉ gs)).length ≤ ls.length := List.length_filter_le ..
  obtain ⟨us, u1, u2, u3, u4, u5⟩ := rosy hU (by omega)
  have ge1 : gEnum [.list (us.map ld)] = some (pairsAt (rngL 0 (us.map ld).length) (us.map ld)) := rfl
  have due1 := due_loop (k := 57) (ct := b18c1 (sem pds 59)) (fe := b18e1 (sem pds 59)) (rs := us) (x0 := .fr s) (x1 := .ow d4) (x3 := .fr (.list (gs.map ld))) (x4 := .fr (.int i)) (x5 := .fr (.int c)) (x6 := .fr (.list (zs.map .str))) (x7 := .fr (.list (ls.map ld))) (x8 := x8) (x9 := x9) (x10 := x10) (x11 := x11) u4 (by omega) (fun j l hl => near_test (k := 58) u4 (by omega) hl) (fun ρ => rfl)
  obtain ⟨rs, r1, r2, r3, r4, r5⟩ := rosy f2 (by omega)
  have ge2 : gEnum [.list (rs.map ld)] = some (pairsAt (rngL 0 (rs.map ld).length) (rs.map ld)) := rfl
  -- the net handed as a list, as a tuple
  have fil : rs.filter (fun l => decide (l ∉ gs)) = us := rk_lnk.uniq (r1.filter _) u1 fun a => by
    rw [List.mem_filter, r2, u2, List.mem_filter]
  have net_ : ∀ c g, (c = .list (ls.map ld) ∨ c = .tuple (ls.map ld)) → (g = .list (gs.map ld) ∨ g = .tuple (gs.map ld)) → sem pds 59 6 [.fr c, .fr g] = .ok (.ow (.list ((netL us).map ld))) [.fr c, .fr g] := fun c g hc hg => by
    have := net_ok (k := 54) r1 r2 f2 (by omega) hc e1 (by omega) hg
    rw [fil] at this
    exact this
  have nU : ∀ l ∈ netL us, LkG l := fun l hl => u4 l (netL_sub.subset hl)
  have lN : (netL us).length ≤ 300 := by have := (netL_sub (r := us)).length_le; omega
  obtain ⟨y11, hy, T1⟩ := hand_turn (k := 59) (s := s) (kk := .int i) (cl := .int c) (spt := .list (zs.map .str)) (d := d4) (rs := netL us) (ls := ls) (gs := gs) (row := us) (x11 := x11) (c := .list (ls.map ld)) (g := .list (gs.map ld)) (due := .none) hp4 h11 (.inl rfl) (.inl rfl) f2 e1 nU lN (by omega) (by omega) (net_ _ _ (.inl rfl) (.inl rfl))
  obtain ⟨z11, hz, T2⟩ := hand_turn (k := 59) (s := s) (kk := .int i) (cl := .int c) (spt := .list (zs.map .str)) (d := d4) (rs := netL us) (ls := ls) (gs := gs) (row := us) (x11 := y11) (c := .tuple (ls.map ld)) (g := .tuple (gs.map ld)) (due := .none) hp4 hy (.inr rfl) (.inr rfl) f2 e1 nU lN (by omega) (by omega) (net_ _ _ (.inr rfl) (.inr rfl))
  have due2 := due_loop (k := 57) (ct := b18c0 (sem pds 59)) (fe := b18e0 (sem pds 59)) (rs := rs) (x0 := .fr s) (x1 := .ow d4) (x3 := .fr (.list (gs.map ld))) (x4 := .fr (.int i)) (x5 := .fr (.int c)) (x6 := .fr (.list (zs.map .str))) (x7 := .fr (.list (ls.map ld))) (x8 := .fr (.list ((netL us).map ld))) (x9 := .fr (.tuple (ls.map ld))) (x10 := .fr (.tuple (gs.map ld))) (x11 := z11) r4 (by omega) (fun j l hl => near_test (k := 58) r4 (by omega) hl) (fun ρ => rfl)
  -- without strikes
  have all0 : ∀ l : List Lnk, l.filter (fun l => decide (l ∉ ([] : List Lnk))) = l := fun l => List.filter_eq_self.mpr fun a _ => by simp
  have n0 : ∀ (ms : List Lnk) (c g : D), (∀ a, a ∈ rs ↔ a ∈ ms) → (∀ l ∈ ms, LkG l) → ms.length < 300 → c = .list (ms.map ld) → (g = .list [] ∨ g = .tuple []) → sem pds 59 6 [.fr c, .fr g] = .ok (.ow (.list ((netL rs).map ld))) [.fr c, .fr g] := fun ms c g h1 h2 h3 hc hg => by
    have := net_ok (k := 54) (ss := []) r1 h1 h2 h3 (.inl hc) (fun l hl => nomatch hl) (by decide) hg
    rw [all0] at this
    exact this
  have n1 := n0 ls _ (.tuple []) r2 f2 (by omega) rfl (.inr rfl)
  have n2 := n0 rs _ (.list []) (fun _ => Iff.rfl) r4 (by omega) rfl (.inl rfl)
  have n3 := n0 rs.reverse _ (.tuple []) (fun a => by rw [List.mem_reverse]) (fun l hl => r4 l (List.mem_reverse.mp hl)) (by rw [List.length_reverse]; omega) rfl (.inr rfl)
  have grv : gRev (.list (rs.map ld)) = some (.ow (.list (rs.reverse.map ld))) := by rw [List.map_reverse]; rfl
  have nR : ∀ l ∈ netL rs, LkG l := fun l hl => r4 l (netL_sub.subset hl)
  have gne : gNe (.list ((netL rs).map ld)) (.list ((netL rs).map ld)) = some (.fr (.bool false)) := by
    rw [gNe_links (strOk_ld nR) (strOk_ld nR), decide_eq_true rfl]; rfl
  have gl0 : gList [] = some (.ow (.list [])) := gList_of (by simp)
  have gT1 : gTuple [.list (ls.map ld), .list (gs.map ld)] = some (.fr (.tuple [.list (ls.map ld), .list (gs.map ld)])) := gTuple_of (by simp)
  have gT2 : gTuple [.tuple (ls.map ld), .tuple (gs.map ld)] = some (.fr (.tuple [.tuple (ls.map ld), .tuple (gs.map ld)])) := gTuple_of (by simp)
  have gL3 : gList [.tuple [.list (ls.map ld), .list (gs.map ld)], .tuple [.tuple (ls.map ld), .tuple (gs.map ld)]] = some (.ow (.list [.tuple [.list (ls.map ld), .list (gs.map ld)], .tuple [.tuple (ls.map ld), .tuple (gs.map ld)]])) := gList_of (by simp)
  have it3 : itD (.list [.tuple [.list (ls.map ld), .list (gs.map ld)], .tuple [.tuple (ls.map ld), .tuple (gs.map ld)]]) = some [.tuple [.list (ls.map ld), .list (gs.map ld)], .tuple [.tuple (ls.map ld), .tuple (gs.map ld)]] := rfl
  have lo1 : gListOf [.list (ls.map ld)] = some (.ow (.list (ls.map ld))) := rfl
  have lo2 : gListOf [.list (gs.map ld)] = some (.ow (.list (gs.map ld))) := rfl
  have to1 : gTupleOf [.list (ls.map ld)] = some (.fr (.tuple (ls.map ld))) := rfl
  have to2 : gTupleOf [.list (gs.map ld)] = some (.fr (.tuple (gs.map ld))) := rfl
  refine ⟨.ow d4, .fr (.list (rs.map ld)), .fr (.list (gs.map ld)), .fr (.list (zs.map .str)), .fr (.list (ls.map ld)), .fr (.list ((netL rs).map ld)), .fr (.tuple (ls.map ld)), .fr (.tuple (gs.map ld)), z11, hz, ?_⟩
  generalize rs.reverse.map ld = RV at *
  generalize (netL rs).map ld = NR at *
  generalize (netL us).map ld = NU at *
  generalize (ls.filter fun l => decide (l ∉ gs)).map ld = UN at *
  generalize rs.map ld = R at *
  generalize us.map ld = U at *
  generalize gs.map ld = GS at *
  generalize ls.map ld = LL at *
  generalize zs.map PyData.str = ZS at *
  simp [b18f1, a2, b4, c4, f4, e4, itL, key, u5, ge1, due1, lo1, lo2, to1, to2, gT1, gT2, gL3, it3, forR, T1, T2, r5, ge2, due2, n1, n2, n3, grv, gne, gl0]
theorem net_any {k : Nat} {rs ms : List Lnk} {ss : List Lnk} {s : D} (hr : rs.Pairwise llt) (hm : ∀ a, a ∈ rs ↔ a ∈ ms) (h : ∀ l ∈ ms, LkG l) (hl : ms.length < 300) (hs : ∀ l ∈ ss, LkG l) (hsl : ss.length < 300) (es : s = .list (ss.map ld) ∨ s = .tuple (ss.map ld)) :
    sem pds (k + 5) 6 [.fr (.list (ms.map ld)), .fr s] = .ok (.ow (.list ((netL (rs.filter fun l => decide (l ∉ ss))).map ld))) [.fr (.list (ms.map ld)), .fr s] := net_ok hr hm h hl (.inl rfl) hs hsl es
/-- the first part: two hundred links -/
theorem first_ok (a : Int) (s : D) : ∃ (d0 d1 d2 d3 d4 : D) (r : Int) (ZS LS R RV N1 GS N2 UN : List D),
    sem pds 59 7 [.fr (.int a), .fr (.int 9)] = .ok (.ow d0) [.fr (.int a), .fr (.int 9)] ∧
    sem pds 59 8 [.ow d0, .fr (.int 11)] = .ok (.fr (.int r)) [.ow d1, .fr (.int 11)] ∧
    sem pds 59 10 [.ow d1, .fr (.int (2 + r))] = .ok (.ow (.list ZS)) [.ow d2, .fr (.int (2 + r))] ∧
    sem pds 59 13 [.ow d2, .fr (.int 200), .fr (.list ZS)] = .ok (.ow (.list LS)) [.ow d3, .fr (.int 200), .fr (.list ZS)] ∧
    gSortedSet [.list LS] = some (.ow (.list R)) ∧ itD (.list R) = some R ∧ gRev (.list R) = some (.ow (.list RV)) ∧
    sem pds 59 6 [.fr (.list RV), .fr (.tuple [])] = .ok (.ow (.list N1)) [.fr (.list RV), .fr (.tuple [])] ∧
    sem pds 59 17 [.fr (.list R)] = .ok (.ow (.list N1)) [.fr (.list R)] ∧ gNe (.list N1) (.list N1) = some (.fr (.bool false)) ∧
    lcR [12] (gNm 12) (b18c4 (sem pds 59)) (b18e4 (sem pds 59)) R [] [.fr s, .ow d3, .fr (.list R), .no, .no, .no, .no, .no, .no, .no, .no, .no, .no, .no] = .ok (.ow (.list GS)) [.fr s, .ow d4, .fr (.list R), .no, .no, .no, .no, .no, .no, .no, .no, .no, .no, .no] ∧
    sem pds 59 6 [.fr (.list RV), .fr (.list GS)] = .ok (.ow (.list N2)) [.fr (.list RV), .fr (.list GS)] ∧
    lcR [12] (gNm 12) (b18c3 (sem pds 59)) (b18e3 (sem pds 59)) R [] [.fr s, .ow d4, .fr (.list R), .fr (.list GS), .no, .no, .no, .no, .no, .no, .no, .no, .no, .no] = .ok (.ow (.list UN)) [.fr s, .ow d4, .fr (.list R), .fr (.list GS), .no, .no, .no, .no, .no, .no, .no, .no, .no, .no] ∧
    sem pds 59 17 [.fr (.list UN)] = .ok (.ow (.list N2)) [.fr (.list UN)] ∧ gNe (.list N2) (.list N2) = some (.fr (.bool false)) := by
  obtain ⟨d0, a1, a2⟩ := begun_ok (k := 58) (a := a) (b := 9) (by omega)
  obtain ⟨r, d1, b1, b2, b3, b4⟩ := next_ok (k := 58) (s := 11) a1 (by omega) (by decide) (by decide)
  obtain ⟨q, hq⟩ : ∃ q : Nat, 2 + r = (q : Int) := ⟨(2 + r).toNat, by omega⟩
  obtain ⟨zs, d2, c1, c2, c3, c4⟩ := spots_ok (k := 56) (m := q) b1 (by omega) (by omega)
  obtain ⟨ls, d3, f1, f2, f3, f4⟩ := links_ok (k := 55) (m := 200) c3 (by omega) (by omega) (by omega) (by omega) c2
  obtain ⟨rs, r1, r2, r3, r4, r5⟩ := rosy f2 (by omega)
  have sr : ∀ l ∈ rs, PyData.strOk l.x = true ∧ PyData.strOk l.y = true := strOk_ld r4
  have hv : ∀ a, a ∈ rs ↔ a ∈ rs.reverse := fun a => by rw [List.mem_reverse]
  have hvg : ∀ l ∈ rs.reverse, LkG l := fun l hl => r4 l (List.mem_reverse.mp hl)
  have hvl : rs.reverse.length < 300 := by rw [List.length_reverse]; omega
  have n1 := net_any (k := 54) (ss := []) (s := .tuple []) r1 hv hvg hvl (fun l h => nomatch h) (by decide) (.inr rfl)
  rw [List.filter_eq_self.mpr fun a _ => by simp] at n1
  have g1 := groups_ok (k := 58) r4 (by omega)
  have nR : ∀ l ∈ netL rs, LkG l := fun l hl => r4 l (netL_sub.subset hl)
  -- the strikes
  obtain ⟨acc, ρ', q1, gs, d4, q2, q3, q4, q5, q6⟩ := lcR_inv (vs := [12]) (g := gNm 12) (ct := b18c4 (sem pds 59)) (fe := b18e4 (sem pds 59))
    (fun i a ρ => ∃ (gs : List Lnk) (d' : D), a = gs.map ld ∧ gs.length ≤ i ∧ (∀ l ∈ gs, LkG l) ∧ (i ≤ 300 → Dr (2000 + i) d') ∧ ρ = [.fr s, .ow d', .fr (.list (rs.map ld)), .no, .no, .no, .no, .no, .no, .no, .no, .no, .no, .no]) (ds := rs.map ld) (acc := []) (ρ := [.fr s, .ow d3, .fr (.list (rs.map ld)), .no, .no, .no, .no, .no, .no, .no, .no, .no, .no, .no])
    ⟨[], d3, rfl, Nat.le_refl _, (fun l hl => nomatch hl), fun _ => f3.mono (by omega), rfl⟩ (by rw [szL, List.length_map, List.length_nil]; omega) (fun i a ρ ⟨gs, d', e, h1, _⟩ => by rw [e, List.length_map, List.length_nil]; omega) (fun i e a ρ he ⟨gs, d', h2, h3, h4, h5, h6⟩ => by
      subst h2 h6
      rw [List.getElem?_map] at he
      obtain ⟨l, hx, rfl⟩ := Option.map_eq_some_iff.mp he
      have hi := (List.getElem?_eq_some_iff.mp hx).1
      obtain ⟨u, d5, k1, k2, k3, k4⟩ := next_ok (k := 58) (s := 3) (h5 (by omega)) (by omega) (by decide) (by decide)
      refine ⟨[.fr s, .ow d', .fr (.list (rs.map ld)), .no, .no, .no, .no, .no, .no, .no, .no, .no, .fr (ld l), .no], by simp, ?_⟩
      by_cases hu : 0 < u
      · refine .inr ⟨[.fr s, .ow d5, .fr (.list (rs.map ld)), .no, .no, .no, .no, .no, .no, .no, .no, .no, .fr (ld l), .no], ?_, .fr (ld l), ld l, _, rfl, rfl, gs ++ [l], d5, by simp, by simp; omega, fun m hm => ?_, fun _ => k1, by simp⟩
        · generalize rs.map ld = L at *
          generalize ld l = LD at *
          simp [b18c4, k4, hu]
        · rcases List.mem_append.mp hm with w | w
          · exact h4 m w
          · rw [List.mem_singleton.mp w]; exact r4 l (List.mem_of_getElem? hx)
      · refine .inl ⟨[.fr s, .ow d5, .fr (.list (rs.map ld)), .no, .no, .no, .no, .no, .no, .no, .no, .no, .fr (ld l), .no], ?_, gs, d5, rfl, by omega, h4, fun _ => k1, by simp⟩
        generalize rs.map ld = L at *
        generalize ld l = LD at *
        simp [b18c4, k4, hu])
  subst q2 q6
  rw [List.length_map] at q3 q5
  have n2 := net_any (k := 54) (ss := gs) r1 hv hvg hvl q4 (by omega) (.inl rfl)
  have gn : ∀ l ∈ rs, gNotIn (ld l) (.list (gs.map ld)) = some (.fr (.bool (!decide (l ∈ gs)))) := fun l hl => gNotIn_links (sr l hl) (strOk_ld q4)
  have key := lcR_pure (vs := [12]) (g := gNm 12) (ct := b18c3 (sem pds 59)) (fe := b18e3 (sem pds 59)) (fun e => [.fr s, .ow d4, .fr (.list (rs.map ld)), .fr (.list (gs.map ld)), .no, .no, .no, .no, .no, .no, .no, .no, .fr e, .no]) (fun e => match gNotIn e (.list (gs.map ld)) with | some (.fr (.bool b)) => b | _ => false) id (ds := rs.map ld) (acc := [])
    (ρ := [.fr s, .ow d4, .fr (.list (rs.map ld)), .fr (.list (gs.map ld)), .no, .no, .no, .no, .no, .no, .no, .no, .no, .no]) (fun e he => by
      obtain ⟨m, hm, rfl⟩ := List.mem_map.mp he
      have g := gn m hm
      refine ⟨by simp, ?_, fun _ => ⟨.fr (ld m), rfl, rfl⟩, by simp⟩
      rw [g]
      generalize decide (m ∈ gs) = bb at *
      generalize gs.map ld = GS at *
      generalize rs.map ld = R at *
      generalize ld m = LM at *
      simp [b18c3, g]) (by rw [szL, List.length_map, List.length_nil]; omega)
  rw [List.nil_append, List.map_id, List.filter_map] at key
  have ef : (rs.filter ((fun e => match gNotIn e (.list (gs.map ld)) with | some (.fr (.bool b)) => b | _ => false) ∘ ld)) = rs.filter fun l => decide (l ∉ gs) := List.filter_congr fun l hl => by
    show (match gNotIn (ld l) (.list (gs.map ld)) with | some (.fr (.bool b)) => b | _ => false) = _
    rw [gn l hl]
    simp
  rw [ef] at key
  have hU : ∀ l ∈ rs.filter fun l => decide (l ∉ gs), LkG l := fun l hl => r4 l (List.mem_filter.mp hl).1
  have lU : (rs.filter fun l => decide (l ∉ gs)).length ≤ rs.length := List.length_filter_le ..
  have g2 := groups_ok (k := 58) hU (by omega)
  have nU : ∀ l ∈ netL (rs.filter fun l => decide (l ∉ gs)), LkG l := fun l hl => hU l (netL_sub.subset hl)
  rw [← hq] at c4
  exact ⟨d0, d1, d2, d3, d4, r, zs.map .str, ls.map ld, rs.map ld, rs.reverse.map ld, (netL rs).map ld, gs.map ld, (netL (rs.filter fun l => decide (l ∉ gs))).map ld, (rs.filter fun l => decide (l ∉ gs)).map ld, a2, b4, c4, f4, r5, rfl, by rw [List.map_reverse]; rfl, n1, g1,
    by rw [gNe_links (strOk_ld nR) (strOk_ld nR), decide_eq_true rfl]; rfl, q1, n2, key, g2, by rw [gNe_links (strOk_ld nU) (strOk_ld nU), decide_eq_true rfl]; rfl⟩
theorem plain (ns : List Int) (hl : ns.length ≤ 63) (hb : ∀ z ∈ ns, Builtin.Int.intBits z ≤ 1048576) : ∃ ρ, sem pds 60 18 [.fr (.list (ns.map .int))] = .ok (.fr (.bool true)) ρ := by
  have core : ∀ (xs : List Int) (s : D) (x1 x2 x3 : B), xs.length ≤ 63 → ∃ y1 y2 y3 y4 y5 y6 y7 y8 y9 y10 y11 : B, forR (gTp 2 (gsCons (gNm 4) (gsCons (gNm 5) gsNil))) (b18f1 (sem pds 59)) (pairsAt (rngL 0 (FK.cutD (xs.map PyData.int) none (some 6)).length) (FK.cutD (xs.map PyData.int) none (some 6))) [.fr s, x1, x2, x3, .no, .no, .no, .no, .no, .no, .no, .no, .no, .no] = .nx [.fr s, y1, y2, y3, y4, y5, y6, y7, y8, y9, y10, y11, .no, .no] := by
    intro xs s x1 x2 x3 hx
    obtain ⟨ρ', f1, y1, y2, y3, y4, y5, y6, y7, y8, y9, y10, y11, f2, f3⟩ := forR_inv (g := gTp 2 (gsCons (gNm 4) (gsCons (gNm 5) gsNil))) (b := b18f1 (sem pds 59)) (fun i ρ => ∃ y1 y2 y3 y4 y5 y6 y7 y8 y9 y10 y11 : B, Fz y11 ∧ ρ = [.fr s, y1, y2, y3, y4, y5, y6, y7, y8, y9, y10, y11, .no, .no]) (ds := pairsAt (rngL 0 (FK.cutD (xs.map PyData.int) none (some 6)).length) (FK.cutD (xs.map PyData.int) none (some 6)))
      (ρ := [.fr s, x1, x2, x3, .no, .no, .no, .no, .no, .no, .no, .no, .no, .no]) ⟨x1, x2, x3, .no, .no, .no, .no, .no, .no, .no, .no, .no, rfl⟩ (fun i e ρ he ⟨y1, y2, y3, y4, y5, y6, y7, y8, y9, y10, y11, h1, h2⟩ => by
        subst h2
        obtain ⟨z, hz, rfl⟩ := enum_get he
        have hz2 := cutD_mem (List.mem_of_getElem? hz)
        obtain ⟨w, hw, rfl⟩ := List.mem_map.mp hz2
        have hi : i < 100 := by
          have h3 := (List.getElem?_eq_some_iff.mp hz).1
          have h4 := cutD_len (ds := xs.map PyData.int) (lo := none) (hi := some 6)
          rw [List.length_map] at h4
          omega
        obtain ⟨z1, z2, z3, z6, z7, z8, z9, z10, z11, q1, q2⟩ := cell04 (s := s) (c := w) (x1 := y1) (x2 := y2) (x3 := y3) (x6 := y6) (x7 := y7) (x8 := y8) (x9 := y9) (x10 := y10) (x11 := y11) hi h1
        exact ⟨_, by simp, _, .inl q2, _, _, _, _, _, _, _, _, _, _, _, q1, rfl⟩)
    exact ⟨y1, y2, y3, y4, y5, y6, y7, y8, y9, y10, y11, by rw [f1, f3]⟩
  -- the last row
  have e0 : ∀ l : List Lnk, netL (([] : List Lnk).filter fun m => decide (m ∉ l)) = [] := fun l => rfl
  have N1 : sem pds 59 6 [.fr (.list []), .fr (.tuple [])] = .ok (.ow (.list [])) [.fr (.list []), .fr (.tuple [])] := net_any (k := 54) (rs := []) (ms := []) (ss := []) (s := .tuple []) .nil (fun _ => Iff.rfl) (fun l h => nomatch h) (by decide) (fun l h => nomatch h) (by decide) (.inr rfl)
  have N2 : sem pds 59 6 [.fr (.list []), .fr (.list [ld lkA])] = .ok (.ow (.list [])) [.fr (.list []), .fr (.list [ld lkA])] := net_any (k := 54) (rs := []) (ms := []) (ss := [lkA]) (s := .list [ld lkA]) .nil (fun _ => Iff.rfl) (fun l h => nomatch h) (by decide) (fun l h => by rw [List.mem_singleton.mp h]; exact lk_ab) (by decide) (.inl rfl)
  have gl0 : gList [] = some (.ow (.list [])) := gList_of (by simp)
  have ge0 : gEq (.list []) (.list []) = some (.fr (.bool true)) := gEq_nil
  have gt1 : gTuple [.int 1, .int 1, .str "a", .str "b"] = some (.fr (ld lkA)) := gTuple_of (by simp)
  have gl1 : gList [ld lkA] = some (.ow (.list [ld lkA])) := gList_of (by simp)
  rw [e18]
  by_cases hn : ns = []
  · obtain ⟨d0, d1, d2, d3, d4, r, ZS, LS, R, RV, M1, GS, M2, UN, h1, h2, h3, h4, h5, h6, h7, h8, h9, h10, h11, h12, h13, h14, h15⟩ := first_ok 5 (.list (ns.map .int))
    obtain ⟨y1, y2, y3, y4, y5, y6, y7, y8, y9, y10, y11, q⟩ := core [5] (.list (ns.map .int)) (.ow d4) (.fr (.list R)) (.fr (.list GS)) (by simp)
    have hg : gSl (.list [.int 5]) none (some 6) = some (.ow (.list (FK.cutD ([5].map PyData.int) none (some 6)))) := rfl
    have he : gEnum [.list (FK.cutD ([5].map PyData.int) none (some 6))] = some (pairsAt (rngL 0 (FK.cutD ([5].map PyData.int) none (some 6)).length) (FK.cutD ([5].map PyData.int) none (some 6))) := rfl
    have ht : truth (.list (ns.map .int)) = false := by rw [hn]; rfl
    have ho : okTruth (.list (ns.map .int)) = true := rfl
    have g5 : gList [.int 5] = some (.ow (.list [.int 5])) := gList_of (by simp)
    generalize FK.cutD ([5].map PyData.int) none (some 6) = L at *
    generalize PyData.list (ns.map .int) = S at *
    exact ⟨[.fr S], by simp [b18, ht, ho, g5, h1, h2, h3, h4, h5, h6, h7, h8, h9, h10, h11, h12, h13, h14, h15, hg, he, q, gl0, N1, ge0, gt1, gl1, N2]⟩
  · obtain ⟨a, as, rfl⟩ : ∃ a as, ns = a :: as := by
      cases ns with
      | nil => exact absurd rfl hn
      | cons a as => exact ⟨a, as, rfl⟩
    obtain ⟨d0, d1, d2, d3, d4, r, ZS, LS, R, RV, M1, GS, M2, UN, h1, h2, h3, h4, h5, h6, h7, h8, h9, h10, h11, h12, h13, h14, h15⟩ := first_ok a (.list ((a :: as).map .int))
    obtain ⟨y1, y2, y3, y4, y5, y6, y7, y8, y9, y10, y11, q⟩ := core (a :: as) (.list ((a :: as).map .int)) (.ow d4) (.fr (.list R)) (.fr (.list GS)) hl
    have hg : gSl (.list ((a :: as).map .int)) none (some 6) = some (.ow (.list (FK.cutD ((a :: as).map PyData.int) none (some 6)))) := rfl
    have he : gEnum [.list (FK.cutD ((a :: as).map PyData.int) none (some 6))] = some (pairsAt (rngL 0 (FK.cutD ((a :: as).map PyData.int) none (some 6)).length) (FK.cutD ((a :: as).map PyData.int) none (some 6))) := rfl
    have ht : truth (.list ((a :: as).map .int)) = true := rfl
    have ho : okTruth (.list ((a :: as).map .int)) = true := rfl
    have hi : gIx (.list ((a :: as).map .int)) (.int 0) = some (.fr (.int a)) := gIx_at0
    generalize FK.cutD ((a :: as).map PyData.int) none (some 6) = L at *
    generalize PyData.list ((a :: as).map .int) = S at *
    exact ⟨[.fr S], by simp [b18, ht, ho, hi, h1, h2, h3, h4, h5, h6, h7, h8, h9, h10, h11, h12, h13, h14, h15, hg, he, q, gl0, N1, ge0, gt1, gl1, N2]⟩
end Lw

set_option Elab.async false
set_option linter.all false
set_option maxRecDepth 100000
set_option maxHeartbeats 0

open PySem PySem.W PySem.Calls PyProof.Rows
theorem PySem.Challenge.cw_fewkept_k04_nets_made_holds : PySem.Challenge.rw_fewkept_k04_nets_made.Holds := by
  w_on; o_law
  refine HandSHeadRun.head_any (r := OpenLaw.row PySem.Challenge.rw_fewkept_k04_nets_made) (q := view (OpenLaw.row PySem.Challenge.rw_fewkept_k04_nets_made).prog [26]) (H := Lw.hk) (ob := Lw.ob) (M := 4000) (loose := Lw.loose) (d := HandSHeadRun.topDef (OpenLaw.row PySem.Challenge.rw_fewkept_k04_nets_made).prog 26) (kwd := []) Lw.ob_eq
    (by kernel_rfl) (fun s => by kernel_rfl) Lw.run (by kernel_rfl) (by kernel_rfl) (by kernel_rfl) (by rfl) (by first | assumption | decide +kernel) (by decide +kernel) ⟨rfl, rfl, rfl, rfl, rfl, by decide +kernel⟩ ?hw ?hc
  case hw => w_witness2
  case hc =>
    refine FK.walk_E (l := PySem.Challenge.rw_fewkept_k04_nets_made) (n := 63) (k := 62) (x := "script") rfl (by decide) (by kernel_rfl) ⟨rfl, by decide, by decide⟩ ?F
    intro w mg fa h Y G hmg0
    obtain ⟨K, KX, c⟩ := Y
    have hmg : mg ("law" : PySem.Str) = some (.ref fa) := by
      have e : (HandSHeadRun.topDef (OpenLaw.row PySem.Challenge.rw_fewkept_k04_nets_made).prog 26).name = ("law" : PySem.Str) := by kernel_rfl
      rw [← e]
      exact hmg0
    obtain ⟨fds, g⟩ := Lw.link KX G c
    have e := hmg.symm.trans g.a18.gl
    cases e
    have b := L2.FunD.bindsA (ps := ["script"]) g.F18 fun _ _ _ _ _ _ us hl => match us, hl with | [_], _ => rfl
    exact ⟨K, fds 18, _, KX, fun s v => b s [v] rfl, fun H a ns hl hb hS => FK.law_ends (T := Lw.TT K) rfl (pds := Lw.pds) (i := 18) (k := 60) rfl hS (Lw.plain ns hl hb), fun base _ _ => Lw.all g 60 18 (by decide)⟩
