import PyProof.Rows.All
import Wide.All
import OpenK.AllK
import Wide.FinOn
import HandS.ForMost
import HandS.WordsExc
import HandS.Flow
import HandS.Wide
import HandS.IsInst
import HandS.TupAny
import HandS.Style
import HandS.Deep
import HandS.Walk
import HandS.Defaults
import HandS.ExcOwn
import KE.DataCmp
import KE.SortData
import HandS.TupMul
import HandS.Zip
import HandS.HeadHook4
import KE.KDictZip
import HandS.ListItems
import HandS.HeadWalk
import HandS.HeadEnd
import HandS.Head0
import HandS.Head1
import HandS.Head2
import PySem.Challenge.RW_fewkept_k01_places_and_links_known
set_option Elab.async false
set_option linter.all false
set_option maxRecDepth 100000
/-! FK 1: data in the abstract heap, owned bindings, zones, steps, results. -/
namespace FK
open PySem PySem.Spec PyProof.Rows L2
abbrev D := PyData
abbrev Fg := PySem.W.Frag
def keyD : Key → D
  | .inl i => .int i
  | .inr x => .str x
def keyT (k : List Key) : D := .tuple (k.map keyD)
mutual
/-- the value v stands for the datum d; H is the part of the heap that it leans on -/
inductive Rep (K : Fg) (H : Hp) : V → D → Prop
  | non : Rep K H .non .none
  | bl (b : Bool) : Rep K H (.bl b) (.bool b)
  | int (i : Int) : Rep K H (.int i) (.int i)
  | str (x : Str) : Rep K H (.str x) (.str x)
  | lst {a : Addr} {xs : List V} {ds : List D} : SqL K H a xs → RepL K H xs ds → Rep K H (.ref a) (.list ds)
  | tup {a : Addr} {xs : List V} {ds : List D} : SqT K H a xs → RepL K H xs ds → Rep K H (.ref a) (.tuple ds)
  | dK {a : Addr} {kvs : List (Key × V)} {ps : List (D × D)} : Rd H a (.dK kvs) → RepP K H (kvs.map fun p => (keyD p.1, p.2)) ps → Rep K H (.ref a) (.dict ps)
  | dT {a : Addr} {kvs : List (List Key × V)} {ps : List (D × D)} : Rd H a (.dT kvs) → RepP K H (kvs.map fun p => (keyT p.1, p.2)) ps → Rep K H (.ref a) (.dict ps)
inductive RepL (K : Fg) (H : Hp) : List V → List D → Prop
  | nil : RepL K H [] []
  | cons {v : V} {vs : List V} {d : D} {ds : List D} : Rep K H v d → RepL K H vs ds → RepL K H (v :: vs) (d :: ds)
inductive RepP (K : Fg) (H : Hp) : List (D × V) → List (D × D) → Prop
  | nil : RepP K H [] []
  | cons {k : D} {v : V} {vs : List (D × V)} {d : D} {ds : List (D × D)} : Rep K H v d → RepP K H vs ds → RepP K H ((k, v) :: vs) ((k, d) :: ds)
end
theorem rd_same {H H' : Hp} {a : Addr} {u : HO} (e : Same H H') (h : Rd H a u) : Rd H' a u := by
  rcases h with h | ⟨o, h⟩
  · exact .inl (e _ _ h)
  · exact .inr ⟨o, e _ _ h⟩
theorem sqL_same {K : Fg} {H H' : Hp} {a : Addr} {xs : List V} (e : Same H H') (h : SqL K H a xs) : SqL K H' a xs := by
  rcases h with h | h
  · exact .inl (rd_same e h)
  · exact .inr h
theorem seqT_same {K : Fg} {H H' : Hp} {a : Addr} {xs : List V} (e : Same H H') (h : SqT K H a xs) : SqT K H' a xs := by
  rcases h with h | h
  · exact .inl (rd_same e h)
  · exact .inr h
mutual
theorem Rep.mono {K : Fg} {H H' : Hp} (e : Same H H') : ∀ {v : V} {d : D}, Rep K H v d → Rep K H' v d
  | _, _, .non => .non
  | _, _, .bl b => .bl b
  | _, _, .int i => .int i
  | _, _, .str x => .str x
  | _, _, .lst h r => .lst (sqL_same e h) (RepL.mono e r)
  | _, _, .tup h r => .tup (seqT_same e h) (RepL.mono e r)
  | _, _, .dK h r => .dK (rd_same e h) (RepP.mono e r)
  | _, _, .dT h r => .dT (rd_same e h) (RepP.mono e r)
theorem RepL.mono {K : Fg} {H H' : Hp} (e : Same H H') : ∀ {vs : List V} {ds : List D}, RepL K H vs ds → RepL K H' vs ds
  | _, _, .nil => .nil
  | _, _, .cons r t => .cons (Rep.mono e r) (RepL.mono e t)
theorem RepP.mono {K : Fg} {H H' : Hp} (e : Same H H') : ∀ {vs : List (D × V)} {ds : List (D × D)}, RepP K H vs ds → RepP K H' vs ds
  | _, _, .nil => .nil
  | _, _, .cons r t => .cons (Rep.mono e r) (RepP.mono e t)
end
section
variable {K : Fg} {H : Hp}
theorem RepL.length : ∀ {vs : List V} {ds : List D}, RepL K H vs ds → vs.length = ds.length
  | _, _, .nil => rfl
  | _, _, .cons _ t => congrArg (· + 1) t.length
theorem RepL.get : ∀ {vs : List V} {ds : List D} {i : Nat} {v : V}, RepL K H vs ds → vs[i]? = some v → ∃ d, ds[i]? = some d ∧ Rep K H v d
  | _, _, _, _, .nil, e => by simp at e
  | _, _, 0, _, .cons r _, e => by simp at e; subst e; exact ⟨_, rfl, r⟩
  | _, _, i + 1, v, .cons _ t, e => by
    obtain ⟨u, h1, h2⟩ := RepL.get (i := i) (v := v) t (by simpa using e)
    exact ⟨u, by simpa using h1, h2⟩
theorem RepL.get' : ∀ {vs : List V} {ds : List D} {i : Nat} {d : D}, RepL K H vs ds → ds[i]? = some d → ∃ v, vs[i]? = some v ∧ Rep K H v d
  | _, _, _, _, .nil, e => by simp at e
  | _, _, 0, _, .cons r _, e => by simp at e; subst e; exact ⟨_, rfl, r⟩
  | _, _, i + 1, d, .cons _ t, e => by
    obtain ⟨u, h1, h2⟩ := RepL.get' (i := i) (d := d) t (by simpa using e)
    exact ⟨u, by simpa using h1, h2⟩
theorem RepL.append : ∀ {vs ws : List V} {ds es : List D}, RepL K H vs ds → RepL K H ws es → RepL K H (vs ++ ws) (ds ++ es)
  | _, _, _, _, .nil, s => s
  | _, _, _, _, .cons r t, s => .cons r (RepL.append t s)
theorem RepL.take : ∀ {vs : List V} {ds : List D} (n : Nat), RepL K H vs ds → RepL K H (vs.take n) (ds.take n)
  | _, _, 0, _ => .nil
  | _, _, _ + 1, .nil => .nil
  | _, _, n + 1, .cons r t => .cons r (RepL.take n t)
theorem RepL.drop : ∀ {vs : List V} {ds : List D} (n : Nat), RepL K H vs ds → RepL K H (vs.drop n) (ds.drop n)
  | _, _, 0, r => r
  | _, _, _ + 1, .nil => .nil
  | _, _, n + 1, .cons _ t => RepL.drop n t
theorem RepL.set {v : V} {d : D} (r : Rep K H v d) : ∀ {vs : List V} {ds : List D} (i : Nat), RepL K H vs ds → RepL K H (vs.set i v) (ds.set i d)
  | _, _, _, .nil => .nil
  | _, _, 0, .cons _ t => .cons r t
  | _, _, i + 1, .cons q t => .cons q (RepL.set r i t)
theorem RepL.reverse {vs : List V} {ds : List D} (h : RepL K H vs ds) : RepL K H vs.reverse ds.reverse := by
  induction vs generalizing ds with
  | nil => cases h; exact .nil
  | cons v vs ih =>
    cases h with
    | cons r t =>
      rw [List.reverse_cons, List.reverse_cons]
      exact (ih t).append (.cons r .nil)
theorem RepL.ints : ∀ (ns : List Int), RepL K H (ns.map V.int) (ns.map PyData.int)
  | [] => .nil
  | n :: ns => .cons (.int n) (RepL.ints ns)
theorem RepL.bls : ∀ (ns : List Bool), RepL K H (ns.map V.bl) (ns.map PyData.bool)
  | [] => .nil
  | n :: ns => .cons (.bl n) (RepL.bls ns)
theorem RepL.strs : ∀ (ns : List Str), RepL K H (ns.map V.str) (ns.map PyData.str)
  | [] => .nil
  | n :: ns => .cons (.str n) (RepL.strs ns)
theorem RepL.of_ints : ∀ {vs : List V} {ns : List Int}, RepL K H vs (ns.map PyData.int) → vs = ns.map V.int
  | _, [], .nil => rfl
  | _, n :: ns, .cons (.int _) t => by rw [RepL.of_ints t]; rfl
theorem RepL.of_bls : ∀ {vs : List V} {ns : List Bool}, RepL K H vs (ns.map PyData.bool) → vs = ns.map V.bl
  | _, [], .nil => rfl
  | _, n :: ns, .cons (.bl _) t => by rw [RepL.of_bls t]; rfl
theorem RepL.of_strs : ∀ {vs : List V} {ns : List Str}, RepL K H vs (ns.map PyData.str) → vs = ns.map V.str
  | _, [], .nil => rfl
  | _, n :: ns, .cons (.str _) t => by rw [RepL.of_strs t]; rfl
end
/-! ### bindings -/
/-- what a name holds: nothing that is told; a frozen datum; an owned list or dict; an owned object of a class -/
inductive B where
  | no
  | fr (d : D)
  | ow (d : D)
  | ob (c : Nat) (fs : List B)
instance : Inhabited B := ⟨.no⟩
abbrev Env := List B
/-- the owned object at a -/
def OwRep (K : Fg) (Hz H : Hp) (a : Addr) : D → Prop
  | .list ds => ∃ vs, H a = some (.lst vs) ∧ RepL K Hz vs ds
  | .dict ps => (∃ kvs, H a = some (.dK kvs) ∧ RepP K Hz (kvs.map fun p => (keyD p.1, p.2)) ps) ∨ ∃ kvs, H a = some (.dT kvs) ∧ RepP K Hz (kvs.map fun p => (keyT p.1, p.2)) ps
  | _ => False
/-- v is as b tells; fp: the addresses that it owns -/
def MRep (K : Fg) (Hz H : Hp) (fp : List Addr) (v : V) : B → Prop
  | .no => fp = []
  | .fr d => fp = [] ∧ Rep K Hz v d
  | .ow d => ∃ a, v = .ref a ∧ fp = [a] ∧ OwRep K Hz H a d
  | .ob _ _ => False
def Own (F : Nat → List Addr) (a : Addr) : Prop := ∃ i, a ∈ F i
structure Zone (K : Fg) (Hz H : Hp) (σ : L2.St) (ρ : Env) (F : Nat → List Addr) : Prop where
  sub : Same Hz H
  len : ρ.length = σ.length
  slot : ∀ i b, ρ[i]? = some b → b ≠ .no → ∃ v, σ[i]? = some (some v) ∧ MRep K Hz H (F i) v b
  out : ∀ i a, a ∈ F i → Hz a = none
  apart : ∀ i j a, a ∈ F i → a ∈ F j → i = j
  dead : ∀ i, (ρ[i]? = none ∨ ρ[i]? = some .no) → F i = []
structure Step (Hz H : Hp) (F : Nat → List Addr) (Hz' H' : Hp) (F' : Nat → List Addr) : Prop where
  z : Same Hz Hz'
  fr : ∀ a o, H a = some o → ¬ Own F a → H' a = some o
  nz : ∀ a, Hz' a ≠ none → Hz a ≠ none ∨ H a = none ∨ Own F a
  no : ∀ a, Own F' a → H a = none ∨ Own F a
  dom : ∀ a, H a ≠ none → H' a ≠ none
theorem ne_none_of_some {α : Type} {x : Option α} {y : α} (h : x = some y) : x ≠ none := by rw [h]; exact fun z => nomatch z
theorem ex_of_ne {α : Type} {x : Option α} (h : x ≠ none) : ∃ y, x = some y := by
  cases x with
  | none => exact absurd rfl h
  | some y => exact ⟨y, rfl⟩
section
variable {K : Fg} {Hz H Hz1 H1 Hz2 H2 : Hp} {F F1 F2 : Nat → List Addr} {σ : L2.St} {ρ : Env}
theorem Step.refl : Step Hz H F Hz H F := ⟨Same.refl _, fun _ _ h _ => h, fun _ h => .inl h, fun _ h => .inr h, fun _ h => h⟩
theorem Step.trans (a : Step Hz H F Hz1 H1 F1) (b : Step Hz1 H1 F1 Hz2 H2 F2) : Step Hz H F Hz2 H2 F2 where
  z := a.z.trans b.z
  fr := fun c o h n => b.fr c o (a.fr c o h n) fun q => by
    rcases a.no c q with z | z
    · rw [h] at z; cases z
    · exact n z
  nz := fun c h => by
    rcases b.nz c h with q | q | q
    · exact a.nz c q
    · refine .inr (.inl ?_)
      cases e : H c with
      | none => rfl
      | some o => exact absurd q (a.dom c (by rw [e]; exact fun z => nomatch z))
    · rcases a.no c q with z | z
      · exact .inr (.inl z)
      · exact .inr (.inr z)
  no := fun c h => by
    rcases b.no c h with q | q
    · refine .inl ?_
      cases e : H c with
      | none => rfl
      | some o => exact absurd q (a.dom c (by rw [e]; exact fun z => nomatch z))
    · exact a.no c q
  dom := fun c h => b.dom c (a.dom c h)
/-- an owned address stands -/
theorem MRep.there {fp : List Addr} {v : V} {b : B} (m : MRep K Hz H fp v b) {a : Addr} (h : a ∈ fp) : H a ≠ none := by
  cases b with
  | no => rw [show fp = [] from m] at h; cases h
  | fr d => rw [m.1] at h; cases h
  | ow d =>
    obtain ⟨c, _, e, o⟩ := m
    rw [e] at h
    have : a = c := by simpa using h
    subst this
    cases d with
    | list ds => obtain ⟨vs, e, _⟩ := o; rw [e]; exact fun z => nomatch z
    | dict ps =>
      rcases o with ⟨_, e, _⟩ | ⟨_, e, _⟩
      · rw [e]; exact fun z => nomatch z
      · rw [e]; exact fun z => nomatch z
    | _ => cases o
  | ob c fs => cases m
theorem Zone.at (z : Zone K Hz H σ ρ F) {i : Nat} (h : F i ≠ []) : ∃ b v, ρ[i]? = some b ∧ b ≠ .no ∧ σ[i]? = some (some v) ∧ MRep K Hz H (F i) v b := by
  cases e : ρ[i]? with
  | none => exact absurd (z.dead i (.inl e)) h
  | some b =>
    by_cases hb : b = .no
    · subst hb; exact absurd (z.dead i (.inr e)) h
    · obtain ⟨v, h1, h2⟩ := z.slot i b e hb
      exact ⟨b, v, rfl, hb, h1, h2⟩
theorem Zone.there (z : Zone K Hz H σ ρ F) {a : Addr} (h : Own F a) : H a ≠ none := by
  obtain ⟨i, hi⟩ := h
  obtain ⟨b, v, _, _, _, m⟩ := z.at (i := i) (fun e => by rw [e] at hi; cases hi)
  exact m.there hi
theorem Zone.notIn (z : Zone K Hz H σ ρ F) {a : Addr} (h : Own F a) : Hz a = none := by
  obtain ⟨i, hi⟩ := h
  exact z.out i a hi
theorem OwRep.keep {a : Addr} {d : D} (s : Same Hz Hz1) (e : H1 a = H a) (o : OwRep K Hz H a d) : OwRep K Hz1 H1 a d := by
  cases d with
  | list ds => obtain ⟨vs, h, r⟩ := o; exact ⟨vs, e.trans h, r.mono s⟩
  | dict ps =>
    rcases o with ⟨k, h, r⟩ | ⟨k, h, r⟩
    · exact .inl ⟨k, e.trans h, r.mono s⟩
    · exact .inr ⟨k, e.trans h, r.mono s⟩
  | _ => cases o
theorem MRep.keep {fp : List Addr} {v : V} {b : B} (s : Same Hz Hz1) (e : ∀ a ∈ fp, H1 a = H a) (m : MRep K Hz H fp v b) : MRep K Hz1 H1 fp v b := by
  cases b with
  | no => exact m
  | fr d => exact ⟨m.1, m.2.mono s⟩
  | ow d =>
    obtain ⟨c, h1, h2, o⟩ := m
    exact ⟨c, h1, h2, o.keep s (e c (by rw [h2]; simp))⟩
  | ob c fs => cases m
/-- the zone behind what kept the owned ones -/
theorem Zone.keep (z : Zone K Hz H σ ρ F) (s : Same Hz Hz1) (s1 : Same Hz1 H1) (e : ∀ a, Own F a → H1 a = H a) (n : ∀ a, Own F a → Hz1 a = none) : Zone K Hz1 H1 σ ρ F where
  sub := s1
  len := z.len
  slot := fun i b h hb => by
    obtain ⟨v, h1, m⟩ := z.slot i b h hb
    exact ⟨v, h1, m.keep s fun a ha => e a ⟨i, ha⟩⟩
  out := fun i a h => n a ⟨i, h⟩
  apart := z.apart
  dead := z.dead
/-- a new object, frozen -/
theorem same_push {p : Addr} {o : HO} (h : H p = none) : Same H (upd H p o) := fun b x e => by
  rw [upd_ne (ne_of_none e h)]; exact e
theorem Same.push {p : Addr} {o : HO} (s : Same Hz H) (h : H p = none) : Same (upd Hz p o) (upd H p o) := fun b x e => by
  by_cases hb : b = p
  · subst hb; rw [upd_same] at e ⊢; exact e
  · rw [upd_ne hb] at e ⊢; exact s b x e
theorem Zone.push {p : Addr} {o : HO} (z : Zone K Hz H σ ρ F) (h : H p = none) : Zone K (upd Hz p o) (upd H p o) σ ρ F :=
  z.keep (same_push (z.sub.free h)) (Same.push z.sub h) (fun a ha => upd_ne fun q => by subst q; exact z.there ha h) fun a ha => by
    rw [upd_ne fun q => by subst q; exact z.there ha h]; exact z.notIn ha
theorem Step.push {p : Addr} {o : HO} (s : Same Hz H) (h : H p = none) : Step Hz H F (upd Hz p o) (upd H p o) F where
  z := same_push (s.free h)
  fr := fun a x e _ => same_push h a x e
  nz := fun a e => by
    by_cases hb : a = p
    · subst hb; exact .inr (.inl h)
    · rw [upd_ne hb] at e; exact .inl e
  no := fun a h => .inr h
  dom := fun a e => by
    by_cases hb : a = p
    · subst hb; rw [upd_same]; exact fun z => nomatch z
    · rw [upd_ne hb]; exact e
/-- a new object, not yet frozen -/
theorem Zone.push0 {p : Addr} {o : HO} (z : Zone K Hz H σ ρ F) (h : H p = none) : Zone K Hz (upd H p o) σ ρ F :=
  z.keep (Same.refl _) (z.sub.trans (same_push h)) (fun a ha => upd_ne fun q => by subst q; exact z.there ha h) fun a ha => z.notIn ha
theorem Step.push0 {p : Addr} {o : HO} (h : H p = none) : Step Hz H F Hz (upd H p o) F where
  z := Same.refl _
  fr := fun a x e _ => same_push h a x e
  nz := fun a e => .inl e
  no := fun a h => .inr h
  dom := fun a e => by
    by_cases hb : a = p
    · subst hb; rw [upd_same]; exact fun z => nomatch z
    · rw [upd_ne hb]; exact e
/-- an owned temp (at p, no slot's) becomes frozen -/
def frz1 (Hz H : Hp) (p : Addr) : Hp := fun b => if b = p then H b else Hz b
theorem frz1_same {p : Addr} : frz1 Hz H p p = H p := if_pos rfl
theorem frz1_ne {p b : Addr} (h : b ≠ p) : frz1 Hz H p b = Hz b := if_neg h
theorem frz1_ge {p : Addr} (h : Hz p = none) : Same Hz (frz1 Hz H p) := fun b x e => by rw [frz1_ne (ne_of_none e h)]; exact e
theorem frz1_le {p : Addr} (s : Same Hz H) : Same (frz1 Hz H p) H := fun b x e => by
  by_cases hb : b = p
  · subst hb; rw [frz1_same] at e; exact e
  · rw [frz1_ne hb] at e; exact s b x e
theorem Zone.freeze {p : Addr} (z : Zone K Hz H σ ρ F) (h : Hz p = none) (n : ¬ Own F p) : Zone K (frz1 Hz H p) H σ ρ F :=
  z.keep (frz1_ge h) (frz1_le z.sub) (fun _ _ => rfl) fun a ha => by rw [frz1_ne fun q => by subst q; exact n ha]; exact z.notIn ha
theorem OwRep.rep {a : Addr} {d : D} (h : Hz a = none) (o : OwRep K Hz H a d) : Rep K (frz1 Hz H a) (.ref a) d := by
  have e : frz1 Hz H a a = H a := frz1_same
  cases d with
  | list ds => obtain ⟨vs, q, r⟩ := o; exact .lst (.inl (.inl (e.trans q))) (r.mono (frz1_ge h))
  | dict ps =>
    rcases o with ⟨k, q, r⟩ | ⟨k, q, r⟩
    · exact .dK (.inl (e.trans q)) (r.mono (frz1_ge h))
    · exact .dT (.inl (e.trans q)) (r.mono (frz1_ge h))
  | _ => cases o
end
/-! ### results -/
/-- an exception: its class (a number), its field -/
structure Xn where
  cls : Nat
  fld : Option D
/-- a result: nothing told; a thing, and the names behind it; an exception -/
inductive Rs (α : Type) where
  | bad
  | ok (a : α) (ρ : Env)
  | exc (x : Xn) (ρ : Env)
abbrev RE := Rs B
abbrev RA := Rs (List D)
abbrev RT := Rs Bool
inductive RS where
  | bad
  | nx (ρ : Env)
  | rt (b : B) (ρ : Env)
  | bk (ρ : Env)
  | ct (ρ : Env)
  | exc (x : Xn) (ρ : Env)
abbrev SE := Env → RE
abbrev SA := Env → RA
abbrev STs := Env → RT
abbrev SS := Env → RS
def frz : B → Option D
  | .fr d => some d
  | .ow d => some d
  | _ => none
def Rs.bnd {α β : Type} (r : Rs α) (k : α → Env → Rs β) : Rs β := match r with
  | .ok a ρ => k a ρ
  | .bad => .bad
  | .exc x ρ => .exc x ρ
/-- the value, frozen -/
def Rs.frd {β : Type} (r : RE) (k : D → Env → Rs β) : Rs β := r.bnd fun b ρ => match frz b with
  | some d => k d ρ
  | none => .bad
def Rs.bS {α : Type} (r : Rs α) (k : α → Env → RS) : RS := match r with
  | .ok a ρ => k a ρ
  | .bad => .bad
  | .exc x ρ => .exc x ρ
def lft {α : Type} (o : Option α) (ρ : Env) : Rs α := match o with
  | some a => .ok a ρ
  | none => .bad
end FK
set_option Elab.async false
set_option linter.all false
set_option maxRecDepth 100000
/-! FK 2: readings of closures; operators. -/
namespace FK
open PySem PySem.Spec PyProof.Rows L2
/-- what is fixed in a law: the written part, how an exception of the program lies -/
structure Tx where
  K : Fg
  xr : Xn → Hp → Value → Option Addr → Hp → Prop
/-- behind an evaluation: P tells how the thing is borne by what came -/
def Aft {α β : Type} (T : Tx) (W : WX) (Hz H : Hp) (F : Nat → List Addr) (σ : L2.St) (P : α → β → Hp → Hp → Hp → (Nat → List Addr) → Prop) (r : Rs α) (Q : β → Hp → Prop) : Prop := match r with
  | .bad => False
  | .ok a ρ' => ∀ (y : β) (Hz' H' : Hp) (F' : Nat → List Addr), Zone T.K Hz' H' σ ρ' F' → Step Hz H F Hz' H' F' → P a y H Hz' H' F' → Q y H'
  | .exc x ρ' => ∀ (cls : Value) (d : Option Addr) (Hz' H' : Hp) (F' : Nat → List Addr), Zone T.K Hz' H' σ ρ' F' → Step Hz H F Hz' H' F' → T.xr x Hz' cls d H' → W cls d σ H'
/-- a value that b tells; what it owns is its own and new or was owned -/
def PB (K : Fg) (F : Nat → List Addr) : B → V → Hp → Hp → Hp → (Nat → List Addr) → Prop := fun b v H Hz' H' F' => ∃ fp, MRep K Hz' H' fp v b ∧ ∀ a ∈ fp, Hz' a = none ∧ ¬ Own F' a ∧ (H a = none ∨ Own F a)
def PL (K : Fg) : List D → List V → Hp → Hp → Hp → (Nat → List Addr) → Prop := fun ds vs _ Hz' _ _ => RepL K Hz' vs ds
def PT_ : Bool → Bool → Hp → Hp → Hp → (Nat → List Addr) → Prop := fun c b _ _ _ _ => c = b
def tE (T : Tx) (W : WX) (f : SE) : TE := fun σ H Q => ∃ Hz ρ F, Zone T.K Hz H σ ρ F ∧ Aft T W Hz H F σ (PB T.K F) (f ρ) Q
def tA (T : Tx) (W : WX) (f : SA) : TA := fun σ H Q => ∃ Hz ρ F, Zone T.K Hz H σ ρ F ∧ Aft T W Hz H F σ (PL T.K) (f ρ) Q
def tT (T : Tx) (W : WX) (f : STs) : TT := fun σ H Q => ∃ Hz ρ F, Zone T.K Hz H σ ρ F ∧ Aft T W Hz H F σ PT_ (f ρ) Q
section
variable {T : Tx} {W : WX} {Hz H Hz1 H1 : Hp} {F F1 : Nat → List Addr} {σ : L2.St} {ρ : Env} {α β : Type}
theorem Aft.imp {P : α → β → Hp → Hp → Hp → (Nat → List Addr) → Prop} {r : Rs α} {Q Q' : β → Hp → Prop} (h : Aft T W Hz H F σ P r Q) (hq : ∀ y H', Q y H' → Q' y H') : Aft T W Hz H F σ P r Q' := by
  cases r with
  | bad => exact h
  | ok a ρ' => exact fun y Hz' H' F' z st p => hq _ _ (h y Hz' H' F' z st p)
  | exc x ρ' => exact h
/-- from a later start -/
theorem Aft.from {P : α → β → Hp → Hp → Hp → (Nat → List Addr) → Prop} {P' : α → β → Hp → Hp → Hp → (Nat → List Addr) → Prop} {r : Rs α} {Q : β → Hp → Prop} (h : Aft T W Hz H F σ P r Q) (s : Step Hz H F Hz1 H1 F1)
    (hp : ∀ a y Hz' H' F', P' a y H1 Hz' H' F' → P a y H Hz' H' F') : Aft T W Hz1 H1 F1 σ P' r Q := by
  cases r with
  | bad => exact h
  | ok a ρ' => exact fun y Hz' H' F' z st p => h y Hz' H' F' z (s.trans st) (hp _ _ _ _ _ p)
  | exc x ρ' => exact fun cls d Hz' H' F' z st q => h cls d Hz' H' F' z (s.trans st) q
theorem PB.from (s : Step Hz H F Hz1 H1 F1) (b : B) (v : V) (Hz' H' : Hp) (F' : Nat → List Addr) (h : PB T.K F1 b v H1 Hz' H' F') : PB T.K F b v H Hz' H' F' := by
  obtain ⟨fp, m, q⟩ := h
  refine ⟨fp, m, fun a ha => ⟨(q a ha).1, (q a ha).2.1, ?_⟩⟩
  rcases (q a ha).2.2 with z | z
  · refine .inl ?_
    cases e : H a with
    | none => rfl
    | some o => exact absurd z (s.dom a (by rw [e]; exact fun z => nomatch z))
  · exact s.no a z
theorem Aft.fromB {r : RE} {Q : VK} (h : Aft T W Hz H F σ (PB T.K F) r Q) (s : Step Hz H F Hz1 H1 F1) : Aft T W Hz1 H1 F1 σ (PB T.K F1) r Q := h.from s fun a y Hz' H' F' p => PB.from s a y Hz' H' F' p
theorem Aft.fromL {r : RA} {Q : List V → Hp → Prop} (h : Aft T W Hz H F σ (PL T.K) r Q) (s : Step Hz H F Hz1 H1 F1) : Aft T W Hz1 H1 F1 σ (PL T.K) r Q := h.from s fun _ _ _ _ _ p => p
theorem Aft.fromT {r : RT} {Q : Bool → Hp → Prop} (h : Aft T W Hz H F σ PT_ r Q) (s : Step Hz H F Hz1 H1 F1) : Aft T W Hz1 H1 F1 σ PT_ r Q := h.from s fun _ _ _ _ _ p => p
/-- a value, its frozen datum -/
theorem freeze {b : B} {d : D} {v : V} (hd : frz b = some d) (z : Zone T.K Hz1 H1 σ ρ F1) (s : Step Hz H F Hz1 H1 F1) (p : PB T.K F b v H Hz1 H1 F1) : ∃ Hz2, Zone T.K Hz2 H1 σ ρ F1 ∧ Step Hz H F Hz2 H1 F1 ∧ Rep T.K Hz2 v d := by
  obtain ⟨fp, m, q⟩ := p
  cases b with
  | no => cases hd
  | fr e => cases hd; exact ⟨Hz1, z, s, m.2⟩
  | ow e =>
    cases hd
    obtain ⟨a, rfl, rfl, o⟩ := m
    obtain ⟨q1, q2, q3⟩ := q a (by simp)
    refine ⟨frz1 Hz1 H1 a, z.freeze q1 q2, ⟨s.z.trans (frz1_ge q1), s.fr, fun b h => ?_, s.no, s.dom⟩, o.rep q1⟩
    by_cases hb : b = a
    · subst hb; exact .inr q3
    · rw [frz1_ne hb] at h; exact s.nz b h
  | ob c fs => cases hd
theorem Aft.bnd {P : α → β → Hp → Hp → Hp → (Nat → List Addr) → Prop} {γ δ : Type} {P' : γ → δ → Hp → Hp → Hp → (Nat → List Addr) → Prop} {r : Rs α} {k : α → Env → Rs γ} {Q : δ → Hp → Prop} (h : Aft T W Hz H F σ P' (r.bnd k) Q) :
    Aft T W Hz H F σ P r fun y H1 => ∃ Hz1 F1 a ρ1, Zone T.K Hz1 H1 σ ρ1 F1 ∧ Step Hz H F Hz1 H1 F1 ∧ P a y H Hz1 H1 F1 ∧ Aft T W Hz H F σ P' (k a ρ1) Q := by
  cases r with
  | bad => exact h
  | ok a ρ' => exact fun y Hz' H' F' z st p => ⟨Hz', F', a, ρ', z, st, p, h⟩
  | exc x ρ' => exact h
theorem Aft.frd {γ δ : Type} {P' : γ → δ → Hp → Hp → Hp → (Nat → List Addr) → Prop} {r : RE} {k : D → Env → Rs γ} {Q : δ → Hp → Prop} (h : Aft T W Hz H F σ P' (r.frd k) Q) :
    Aft T W Hz H F σ (PB T.K F) r fun v H1 => ∃ Hz1 F1 d ρ1, Zone T.K Hz1 H1 σ ρ1 F1 ∧ Step Hz H F Hz1 H1 F1 ∧ Rep T.K Hz1 v d ∧ Aft T W Hz H F σ P' (k d ρ1) Q := by
  refine Aft.imp (Aft.bnd (P := PB T.K F) h) fun v H1 ⟨Hz1, F1, b, ρ1, z, st, p, q⟩ => ?_
  cases e : frz b with
  | none => rw [e] at q; cases q
  | some d =>
    rw [e] at q
    obtain ⟨Hz2, z2, s2, r2⟩ := freeze e z st p
    exact ⟨Hz2, F1, d, ρ1, z2, s2, r2, q⟩
/-- ends -/
theorem Aft.fin {d : D} {v : V} {Q : VK} (h : Aft T W Hz H F σ (PB T.K F) (.ok (.fr d) ρ) Q) (z : Zone T.K Hz H σ ρ F) (r : Rep T.K Hz v d) : Q v H := h v Hz H F z .refl ⟨[], ⟨rfl, r⟩, fun a ha => nomatch ha⟩
end
/-- a value made: the heap grew; Hz' is what stands frozen then -/
def New (K : Fg) (Hz H : Hp) (b : B) (v : V) (H' : Hp) : Prop := ∃ Hz' fp, Same Hz Hz' ∧ Same H H' ∧ Same Hz' H' ∧ (∀ a, Hz' a ≠ none → Hz a ≠ none ∨ H a = none) ∧ MRep K Hz' H' fp v b ∧ ∀ a ∈ fp, Hz' a = none ∧ H a = none
section
variable {K : Fg} {Hz H H' : Hp} {v : V} {d : D} {ds : List D} {vs : List V} {p : Addr}
theorem New.here (s : Same Hz H) (r : Rep K Hz v d) : New K Hz H (.fr d) v H := ⟨Hz, [], .refl _, .refl _, s, fun _ h => .inl h, ⟨rfl, r⟩, fun a ha => nomatch ha⟩
theorem New.tup (s : Same Hz H) (h : H p = none) (r : RepL K Hz vs ds) : New K Hz H (.fr (.tuple ds)) (.ref p) (upd H p (.tup vs)) :=
  ⟨upd Hz p (.tup vs), [], same_push (s.free h), same_push h, Same.push s h, fun a e => by
    by_cases hb : a = p
    · subst hb; exact .inr h
    · rw [upd_ne hb] at e; exact .inl e, ⟨rfl, .tup (SqT.of upd_same) (r.mono (same_push (s.free h)))⟩, fun a ha => nomatch ha⟩
theorem New.lst (s : Same Hz H) (h : H p = none) (r : RepL K Hz vs ds) : New K Hz H (.ow (.list ds)) (.ref p) (upd H p (.lst vs)) :=
  ⟨Hz, [p], .refl _, same_push h, s.trans (same_push h), fun a e => .inl e, ⟨p, rfl, rfl, vs, upd_same, r⟩, fun a ha => by
    have e : a = p := by simpa using ha
    subst e; exact ⟨s.free h, h⟩⟩
end
section
variable {T : Tx} {W : WX} {Hz H Hz1 H1 : Hp} {F : Nat → List Addr} {σ : L2.St} {ρ : Env}
/-- a value made, behind an evaluation -/
theorem Aft.made {b : B} {v : V} {H' : Hp} {Q : VK} (h : Aft T W Hz H F σ (PB T.K F) (.ok b ρ) Q) (z : Zone T.K Hz H σ ρ F) (n : New T.K Hz H b v H') : Q v H' := by
  obtain ⟨Hz', fp, s1, s2, s3, nz, m, q⟩ := n
  have no : ∀ a, Own F a → Hz' a = none := fun a ha => by
    cases e : Hz' a with
    | none => rfl
    | some o =>
      rcases nz a (by rw [e]; exact fun z => nomatch z) with w | w
      · exact absurd (z.notIn ha) w
      · exact absurd w (z.there ha)
  refine h v Hz' H' F (z.keep s1 s3 (fun a ha => ?_) no) ⟨s1, fun a o e _ => s2 a o e, fun a e => (nz a e).elim .inl fun w => .inr (.inl w), fun a ha => .inr ha, fun a e => ?_⟩ ⟨fp, m, fun a ha => ⟨(q a ha).1, fun w => z.there w (q a ha).2, .inl (q a ha).2⟩⟩
  · obtain ⟨o, e⟩ := ex_of_ne (z.there ha)
    rw [e]; exact s2 a o e
  · obtain ⟨o, e⟩ := ex_of_ne e
    rw [s2 a o e]; exact fun z => nomatch z
end
/-! ### operators by data -/
def rOf (K : Fg) (g : D → D → Option B) : R2 := fun x y H Q => ∃ Hz d e b, Same Hz H ∧ Rep K Hz x d ∧ Rep K Hz y e ∧ g d e = some b ∧ ∀ v H', New K Hz H b v H' → Q v H'
def rOf1 (K : Fg) (g : D → Option B) : V → Hp → VK → Prop := fun x H Q => ∃ Hz d b, Same Hz H ∧ Rep K Hz x d ∧ g d = some b ∧ ∀ v H', New K Hz H b v H' → Q v H'
def rOfN (K : Fg) (g : List D → Option B) : List V → Hp → VK → Prop := fun xs H Q => ∃ Hz ds b, Same Hz H ∧ RepL K Hz xs ds ∧ g ds = some b ∧ ∀ v H', New K Hz H b v H' → Q v H'
/-! ### closures of expressions -/
def sVar (i : Nat) : SE := fun ρ => match ρ[i]? with
  | some (.fr d) => .ok (.fr d) ρ
  | _ => .bad
def sC (d : D) : SE := fun ρ => .ok (.fr d) ρ
def sBin (g : D → D → Option B) (fa fb : SE) : SE := fun ρ => (fa ρ).frd fun x ρ1 => (fb ρ1).frd fun y ρ2 => lft (g x y) ρ2
def sUn (g : D → Option B) (fa : SE) : SE := fun ρ => (fa ρ).frd fun x ρ1 => lft (g x) ρ1
def sNil : SA := fun ρ => .ok [] ρ
def sCons (fa : SE) (fr : SA) : SA := fun ρ => (fa ρ).frd fun x ρ1 => (fr ρ1).bnd fun xs ρ2 => .ok (x :: xs) ρ2
def sApp (g : List D → Option B) (fa : SA) : SE := fun ρ => (fa ρ).bnd fun xs ρ1 => lft (g xs) ρ1
def small (n : Nat) : Bool := decide (n ≤ sizeLine)
def gTuple (ds : List D) : Option B := if ds.length ≤ sizeLine then some (.fr (.tuple ds)) else none
def gList (ds : List D) : Option B := if ds.length ≤ sizeLine then some (.ow (.list ds)) else none
def truth : D → Bool
  | .none => false
  | .bool b => b
  | .int i => i != 0
  | .str x => x.length != 0
  | .list ds => !ds.isEmpty
  | .tuple ds => !ds.isEmpty
  | .dict ps => !ps.isEmpty
def okTruth : D → Bool
  | .str x => decide (x.length ≤ sizeLine)
  | .dict _ => false
  | _ => true
def sTru (fa : SE) : STs := fun ρ => (fa ρ).frd fun x ρ1 => if okTruth x then .ok (truth x) ρ1 else .bad
def bOf : D → Option Bool
  | .bool b => some b
  | _ => none
def sTest (fa : SE) : STs := fun ρ => (fa ρ).frd fun x ρ1 => lft (bOf x) ρ1
def sNotV (fa : SE) : SE := fun ρ => (fa ρ).frd fun x ρ1 => if okTruth x then .ok (.fr (.bool (!truth x))) ρ1 else .bad
def sNotT (c : STs) : STs := fun ρ => (c ρ).bnd fun b ρ1 => .ok (!b) ρ1
def sAndT (c e : STs) : STs := fun ρ => (c ρ).bnd fun b ρ1 => if b = true then e ρ1 else .ok false ρ1
def sOrT (c e : STs) : STs := fun ρ => (c ρ).bnd fun b ρ1 => if b = true then .ok true ρ1 else e ρ1
def sIf (c : STs) (fa fb : SE) : SE := fun ρ => (c ρ).bnd fun b ρ1 => if b = true then fa ρ1 else fb ρ1
/-- a test as a value (a bool) -/
def sBool (c : STs) : SE := fun ρ => (c ρ).bnd fun b ρ1 => .ok (.fr (.bool b)) ρ1
/-- a or b, a and b, as values -/
def sOrV (fa fb : SE) : SE := fun ρ => (fa ρ).frd fun x ρ1 => if okTruth x then (if truth x = true then .ok (.fr x) ρ1 else fb ρ1) else .bad
def sAndV (fa fb : SE) : SE := fun ρ => (fa ρ).frd fun x ρ1 => if okTruth x then (if truth x = true then fb ρ1 else .ok (.fr x) ρ1) else .bad
def sChain (g g' : D → D → Option B) (fa fb fc : SE) : SE := fun ρ => (fa ρ).frd fun x ρ1 => (fb ρ1).frd fun y ρ2 => (lft (g x y) ρ2).frd fun w ρ3 => (lft (bOf w) ρ3).bnd fun k ρ4 =>
  if k = true then (fc ρ4).frd fun z ρ5 => lft (g' y z) ρ5 else .ok (.fr (.bool false)) ρ4
end FK
set_option Elab.async false
set_option linter.all false
set_option maxRecDepth 100000
/-! FK 3: expressions and tests. -/
namespace FK
open PySem PySem.Spec PyProof.Rows L2
section
variable {X : Cx}
theorem PE.mono {e : Expr} {t t' : TE} (h : PE X e t) (f : ∀ σ H Q, t' σ H Q → t σ H Q) : PE X e t' := ⟨fun pins s σ H Q I q => h.run pins s σ H Q I (f σ H Q q)⟩
theorem PT.mono {e : Expr} {t t' : TT} (h : PT X e t) (f : ∀ σ H Q, t' σ H Q → t σ H Q) : PT X e t' := ⟨fun pins s σ H Q I q => h.run pins s σ H Q I (f σ H Q q)⟩
theorem PW.mono {e : Expr} {t t' : TT} (h : PW X e t) (f : ∀ σ H Q, t' σ H Q → t σ H Q) : PW X e t' := ⟨fun wh pins s σ H Q I q => h.run wh pins s σ H Q I (f σ H Q q)⟩
theorem PA.mono {e : List Expr} {t t' : TA} (h : PA X e t) (f : ∀ σ H Q, t' σ H Q → t σ H Q) : PA X e t' := ⟨fun p pins s σ H Q I q => h.run p pins s σ H Q I (f σ H Q q)⟩
theorem PS.mono {e : Stmt} {t t' : TS} (h : PS X e t) (f : ∀ D σ H, t' D σ H → t D σ H) : PS X e t' := ⟨fun pins s σ H D I q => h.run pins s σ H D I (f D σ H q)⟩
theorem PSs.mono {e : List Stmt} {t t' : TS} (h : PSs X e t) (f : ∀ D σ H, t' D σ H → t D σ H) : PSs X e t' := ⟨fun pins s σ H D I q => h.run pins s σ H D I (f D σ H q)⟩
end
section
variable {X : Cx} {T : Tx} {W : WX} {a b c e : Expr} {es : List Expr} {fa fb fc : SE} {fs : SA} {ct et : STs} {pos p : Pos}
theorem e_var {i : Nat} {x : Str} (hN : X.N[i]? = some x) (hv : Vis X.env.scope x) (hd : (x == ("__debug__" : Str)) = false) (hcd : (x == ("__classdict__" : Str)) = false) : PE X (.Name x pos) (tE T W (sVar i)) := by
  refine PE.mono (pe_var hN hv hd hcd) fun σ H Q ⟨Hz, ρ, F, z, h⟩ => ?_
  unfold sVar at h
  cases q : ρ[i]? with
  | none => rw [q] at h; cases h
  | some b =>
    rw [q] at h
    cases b with
    | fr d =>
      obtain ⟨v, h1, m⟩ := z.slot i _ q (fun w => nomatch w)
      exact ⟨v, h1, h.fin z m.2⟩
    | _ => cases h
theorem e_const {t : TE} {v : V} {d : D} (he : PE X e t) (ht : t = tC v) (r : ∀ K Hz, Rep K Hz v d) : PE X e (tE T W (sC d)) := by
  subst ht
  exact PE.mono he fun σ H Q ⟨Hz, ρ, F, z, h⟩ => h.fin z (r _ _)
theorem e_int {i : Int} {j : Nat} : PE X (.Constant (.int i) j pos) (tE T W (sC (.int i))) := e_const pe_int rfl fun _ _ => .int i
theorem e_bl {b : Bool} {j : Nat} : PE X (.Constant (.bool b) j pos) (tE T W (sC (.bool b))) := e_const pe_bl rfl fun _ _ => .bl b
theorem e_non {j : Nat} : PE X (.Constant .none j pos) (tE T W (sC .none)) := e_const pe_non rfl fun _ _ => .non
theorem e_str {x : Str} {j : Nat} : PE X (.Constant (.str x) j pos) (tE T W (sC (.str x))) := e_const pe_str rfl fun _ _ => .str x
/-- the operands' common part -/
theorem two {g : D → D → Option B} {σ : L2.St} {H : Hp} {Q : VK} (h : tE T W (sBin g fa fb) σ H Q) : tOp (rOf T.K g) (tE T W fa) (tE T W fb) σ H Q := by
  obtain ⟨Hz, ρ, F, z, h⟩ := h
  refine ⟨Hz, ρ, F, z, Aft.imp (Aft.frd h) fun v H1 ⟨Hz1, F1, d, ρ1, z1, s1, r1, q1⟩ => ?_⟩
  refine ⟨Hz1, ρ1, F1, z1, Aft.imp (Aft.frd (q1.fromB s1)) fun u H2 ⟨Hz2, F2, e, ρ2, z2, s2, r2, q2⟩ => ?_⟩
  cases hg : g d e with
  | none => rw [hg] at q2; cases q2
  | some b =>
    rw [hg] at q2
    exact ⟨Hz2, d, e, b, z2.sub, r1.mono s2.z, r2, hg, fun v H' n => (q2.fromB s2).made z2 n⟩
theorem e_op {op : Operator} {g : D → D → Option B} (ho : OpR X (binaryOp op) (rOf T.K g)) (ha : PE X a (tE T W fa)) (hb : PE X b (tE T W fb)) : PE X (.BinOp a op b pos) (tE T W (sBin g fa fb)) :=
  PE.mono (pe_op ho ha hb) fun _ _ _ h => two h
theorem e_cmp {op : CmpOp} {g : D → D → Option B} (ho : OpR X (compareOp op) (rOf T.K g)) (ha : PE X a (tE T W fa)) (hb : PE X b (tE T W fb)) (hm : behindInMarks op b = false) : PE X (.Compare a [op] [b] pos) (tE T W (sBin g fa fb)) :=
  PE.mono (pe_cmpR ho ha hb hm) fun _ _ _ h => two h
theorem e_un {op : UnaryOp} {g : D → Option B} (ho : UnR X (unaryOp op) (rOf1 T.K g)) (ha : PE X a (tE T W fa)) : PE X (.UnaryOp op a pos) (tE T W (sUn g fa)) := by
  refine PE.mono (pe_un ho ha) fun σ H Q ⟨Hz, ρ, F, z, h⟩ => ?_
  refine ⟨Hz, ρ, F, z, Aft.imp (Aft.frd h) fun v H1 ⟨Hz1, F1, d, ρ1, z1, s1, r1, q1⟩ => ?_⟩
  cases hg : g d with
  | none => rw [hg] at q1; cases q1
  | some b =>
    rw [hg] at q1
    exact ⟨Hz1, d, b, z1.sub, r1, hg, fun v H' n => (q1.fromB s1).made z1 n⟩
theorem a_nil : PA X [] (tA T W sNil) := PA.mono pa_nil fun σ H Q ⟨Hz, ρ, F, z, h⟩ => h [] Hz H F z .refl .nil
theorem a_cons (ha : PE X e (tE T W fa)) (hr : PA X es (tA T W fs)) (hs : starEach (e :: es) X.env = (false, eval e X.env) :: starEach es X.env) : PA X (e :: es) (tA T W (sCons fa fs)) := by
  refine PA.mono (pa_cons ha hr hs) fun σ H Q ⟨Hz, ρ, F, z, h⟩ => ?_
  refine ⟨Hz, ρ, F, z, Aft.imp (Aft.frd h) fun v H1 ⟨Hz1, F1, d, ρ1, z1, s1, r1, q1⟩ => ?_⟩
  refine ⟨Hz1, ρ1, F1, z1, Aft.imp (Aft.bnd (P := PL T.K) (q1.fromL s1)) fun vs H2 ⟨Hz2, F2, ds, ρ2, z2, s2, r2, q2⟩ => ?_⟩
  exact (q2.fromL s2) (v :: vs) Hz2 H2 F2 z2 .refl (.cons (r1.mono s2.z) r2)
theorem e_tup {x1 : Nat} (h : PA X es (tA T W fs)) : PE X (.Tuple es x1 pos) (tE T W (sApp gTuple fs)) := by
  refine PE.mono (pe_tup h) fun σ H Q ⟨Hz, ρ, F, z, h⟩ => ?_
  refine ⟨Hz, ρ, F, z, Aft.imp (Aft.bnd (P := PL T.K) h) fun vs H1 ⟨Hz1, F1, ds, ρ1, z1, s1, r1, q1⟩ => ?_⟩
  unfold gTuple at q1
  by_cases hl : ds.length ≤ sizeLine
  · rw [if_pos hl] at q1
    exact ⟨by rw [r1.length]; exact hl, fun p hp => (q1.fromB s1).made z1 (.tup z1.sub hp r1)⟩
  · rw [if_neg hl] at q1; cases q1
theorem e_lst (h : PA X es (tA T W fs)) : PE X (.List es pos) (tE T W (sApp gList fs)) := by
  refine PE.mono (pe_lst h) fun σ H Q ⟨Hz, ρ, F, z, h⟩ => ?_
  refine ⟨Hz, ρ, F, z, Aft.imp (Aft.bnd (P := PL T.K) h) fun vs H1 ⟨Hz1, F1, ds, ρ1, z1, s1, r1, q1⟩ => ?_⟩
  unfold gList at q1
  by_cases hl : ds.length ≤ sizeLine
  · rw [if_pos hl] at q1
    exact ⟨by rw [r1.length]; exact hl, fun p hp => (q1.fromB s1).made z1 (.lst z1.sub hp r1)⟩
  · rw [if_neg hl] at q1; cases q1
/-- what a built-in call asks -/
theorem many {g : List D → Option B} {σ : L2.St} {H : Hp} {Q : VK} (h : tE T W (sApp g fs) σ H Q) : tCB (rOfN T.K g) (tA T W fs) σ H Q := by
  obtain ⟨Hz, ρ, F, z, h⟩ := h
  refine ⟨Hz, ρ, F, z, Aft.imp (Aft.bnd (P := PL T.K) h) fun vs H1 ⟨Hz1, F1, ds, ρ1, z1, s1, r1, q1⟩ => ?_⟩
  cases hg : g ds with
  | none => rw [hg] at q1; cases q1
  | some b =>
    rw [hg] at q1
    exact ⟨Hz1, ds, b, z1.sub, r1, hg, fun v H' n => (q1.fromB s1).made z1 n⟩
theorem e_callB {x : Str} {id : String} {g : List D → Option B} (hc : CallR X (.builtin id) (rOfN T.K g)) (hg : Gl X x) (hm : X.mg x = none) (hv : bootBuiltins x = some (.builtin id)) (ha : PA X (e :: es) (tA T W fs)) (hn : x ≠ "__name__") (hdb : (x == ("__debug__" : Str)) = false)
    (he : starEach (e :: es) X.env = (false, eval e X.env) :: starEach es X.env) (hpl : (backTo pos (starEach es X.env)).any (·.1) = false) : PE X (.Call (.Name x p) (e :: es) [] pos) (tE T W (sApp g fs)) :=
  PE.mono (pe_callB hc hg hm hv ha hn hdb he hpl) fun _ _ _ h => many h
theorem e_callTy {x : Str} {ty : String} {g : List D → Option B} (hc : CallR X (.type ty) (rOfN T.K g)) (hg : Gl X x) (hm : X.mg x = none) (hv : bootBuiltins x = some (.type ty)) (ha : PA X (e :: es) (tA T W fs)) (hn : x ≠ "__name__") (hdb : (x == ("__debug__" : Str)) = false)
    (he : starEach (e :: es) X.env = (false, eval e X.env) :: starEach es X.env) (hpl : (backTo pos (starEach es X.env)).any (·.1) = false) : PE X (.Call (.Name x p) (e :: es) [] pos) (tE T W (sApp g fs)) :=
  PE.mono (pe_callTy hc hg hm hv ha hn hdb he hpl) fun _ _ _ h => many h
/-! ### truth -/
theorem rd_lst {K : Fg} {H : Hp} {p : Addr} {xs : List V} (h : SqL K H p xs) : SqL K H p xs := h
theorem truV_of {K : Fg} {Hz H : Hp} {x : V} {d : D} (hs : Same Hz H) (hd : okTruth d = true) (r : Rep K Hz x d) : TruV K x H (truth d) := by
  cases r with
  | non => exact rfl
  | bl b => exact rfl
  | int i => exact rfl
  | str y =>
    refine ⟨of_decide_eq_true hd, ?_⟩
    show (y.length != 0) = ((y.length : Int) != 0)
    by_cases e : y.length = 0
    · rw [e]; rfl
    · have e2 : ((y.length : Nat) : Int) ≠ 0 := by omega
      rw [bne_iff_ne.mpr e, bne_iff_ne.mpr e2]
  | lst h rr =>
    refine .inl ⟨_, sqL_same hs h, ?_⟩
    cases rr <;> rfl
  | tup h rr =>
    refine .inr (.inl ⟨_, seqT_same hs h, ?_⟩)
    cases rr <;> rfl
  | dK h rr => cases hd
  | dT h rr => cases hd
end
end FK
set_option Elab.async false
set_option linter.all false
set_option maxRecDepth 100000
/-! FK 4: tests, and or not, chains. -/
namespace FK
open PySem PySem.Spec PyProof.Rows L2
theorem rep_bl {K : Fg} {Hz : Hp} {v : V} {b : Bool} (h : Rep K Hz v (.bool b)) : v = .bl b := by cases h; rfl
theorem bOf_some {d : D} {b : Bool} (h : bOf d = some b) : d = .bool b := by
  cases d with
  | bool c => cases h; rfl
  | _ => cases h
section
variable {X : Cx} {T : Tx} {W : WX} {a b c e : Expr} {es : List Expr} {fa fb fc : SE} {fs : SA} {ct et : STs} {pos p : Pos}
theorem Aft.lft {T : Tx} {W : WX} {Hz H : Hp} {F : Nat → List Addr} {σ : L2.St} {ρ : Env} {α β : Type} {P : α → β → Hp → Hp → Hp → (Nat → List Addr) → Prop} {o : Option α} {Q : β → Hp → Prop} (h : Aft T W Hz H F σ P (lft o ρ) Q) : ∃ a, o = some a ∧ Aft T W Hz H F σ P (.ok a ρ) Q := by
  cases o with
  | none => cases h
  | some a => exact ⟨a, rfl, h⟩
theorem e_truth {X : Cx} {T : Tx} (hK : X.K = T.K) {σ : L2.St} {H : Hp} {Q : Bool → Hp → Prop} (h : tT T W (sTru fa) σ H Q) : tE T W fa σ H fun x H' => ∃ k, TruV X.K x H' k ∧ Q k H' := by
  obtain ⟨Hz, ρ, F, z, h⟩ := h
  refine ⟨Hz, ρ, F, z, Aft.imp (Aft.frd h) fun v H1 ⟨Hz1, F1, d, ρ1, z1, s1, r1, q1⟩ => ?_⟩
  by_cases ho : okTruth d = true
  · rw [if_pos ho] at q1
    rw [hK]
    exact ⟨truth d, truV_of z1.sub ho r1, (q1.fromT s1) (truth d) Hz1 H1 F1 z1 .refl rfl⟩
  · rw [if_neg ho] at q1; cases q1
theorem t_tru (hK : X.K = T.K) (ha : PE X a (tE T W fa)) (he : ∀ whole, isTrue a X.env whole = (do let v ← whole; standAt a.pos; holding [v] (truthy v))) : PT X a (tT T W (sTru fa)) :=
  PT.mono (pt_truth ha he) fun _ _ _ h => e_truth hK h
theorem test_two {g : D → D → Option B} {σ : L2.St} {H : Hp} {Q : Bool → Hp → Prop} (h : tT T W (sTest (sBin g fa fb)) σ H Q) : tTest (tOp (rOf T.K g) (tE T W fa) (tE T W fb)) σ H Q := by
  refine two ?_
  obtain ⟨Hz, ρ, F, z, h⟩ := h
  refine ⟨Hz, ρ, F, z, Aft.imp (Aft.frd h) fun v H1 ⟨Hz1, F1, d, ρ1, z1, s1, r1, q1⟩ => ?_⟩
  obtain ⟨k, e, q1⟩ := q1.lft
  rw [bOf_some e] at r1
  exact ⟨k, rep_bl r1, (q1.fromT s1) k Hz1 H1 F1 z1 .refl rfl⟩
theorem t_cmp {op : CmpOp} {g : D → D → Option B} (ho : OpR X (compareOp op) (rOf T.K g)) (ha : PE X a (tE T W fa)) (hb : PE X b (tE T W fb)) (hm : behindInMarks op b = false) : PT X (.Compare a [op] [b] pos) (tT T W (sTest (sBin g fa fb))) :=
  PT.mono (pt_cmpR ho ha hb hm) fun _ _ _ h => test_two h
theorem t_not (h : PT X a (tT T W ct)) : PT X (.UnaryOp .Not a pos) (tT T W (sNotT ct)) := by
  refine PT.mono (pt_not h) fun σ H Q ⟨Hz, ρ, F, z, h⟩ => ?_
  refine ⟨Hz, ρ, F, z, Aft.imp (Aft.bnd (P := PT_) h) fun b H1 ⟨Hz1, F1, c, ρ1, z1, s1, r1, q1⟩ => ?_⟩
  cases r1
  exact (q1.fromT s1) _ Hz1 H1 F1 z1 .refl rfl
theorem w_one (h : PT X a (tT T W ct)) (op : BoolOp) : PW X (.BoolOp op [a] pos) (tT T W ct) := by
  cases op with
  | And => exact pw_and1 h
  | Or => exact pw_or1 h
theorem w_and {rest : List Expr} (h : PT X a (tT T W ct)) (hb : PW X (.BoolOp .And (b :: rest) pos) (tT T W et)) : PW X (.BoolOp .And (a :: b :: rest) pos) (tT T W (sAndT ct et)) := by
  refine PW.mono (pw_and h hb) fun σ H Q ⟨Hz, ρ, F, z, h⟩ => ?_
  refine ⟨Hz, ρ, F, z, Aft.imp (Aft.bnd (P := PT_) h) fun bb H1 ⟨Hz1, F1, kk, ρ1, z1, s1, r1, q1⟩ => ?_⟩
  cases r1
  cases bb with
  | true => exact iteT ⟨Hz1, ρ1, F1, z1, q1.fromT s1⟩
  | false => exact iteF ((q1.fromT s1) false Hz1 H1 F1 z1 .refl rfl)
theorem w_or {rest : List Expr} (h : PT X a (tT T W ct)) (hb : PW X (.BoolOp .Or (b :: rest) pos) (tT T W et)) : PW X (.BoolOp .Or (a :: b :: rest) pos) (tT T W (sOrT ct et)) := by
  refine PW.mono (pw_or h hb) fun σ H Q ⟨Hz, ρ, F, z, h⟩ => ?_
  refine ⟨Hz, ρ, F, z, Aft.imp (Aft.bnd (P := PT_) h) fun bb H1 ⟨Hz1, F1, kk, ρ1, z1, s1, r1, q1⟩ => ?_⟩
  cases r1
  cases bb with
  | false => exact iteF ⟨Hz1, ρ1, F1, z1, q1.fromT s1⟩
  | true => exact iteT ((q1.fromT s1) true Hz1 H1 F1 z1 .refl rfl)
theorem e_if (hc : PT X c (tT T W ct)) (ha : PE X a (tE T W fa)) (hb : PE X b (tE T W fb)) : PE X (.IfExp c a b pos) (tE T W (sIf ct fa fb)) := by
  refine PE.mono (pe_ifExp hc ha hb) fun σ H Q ⟨Hz, ρ, F, z, h⟩ => ?_
  refine ⟨Hz, ρ, F, z, Aft.imp (Aft.bnd (P := PT_) h) fun bb H1 ⟨Hz1, F1, kk, ρ1, z1, s1, r1, q1⟩ => ?_⟩
  cases r1
  cases bb with
  | false => exact iteF ⟨Hz1, ρ1, F1, z1, q1.fromB s1⟩
  | true => exact iteT ⟨Hz1, ρ1, F1, z1, q1.fromB s1⟩
theorem e_or (hK : X.K = T.K) {rest : List Expr} (ha : PE X a (tE T W fa)) (hb : PE X (.BoolOp .Or (b :: rest) pos) (tE T W fb)) : PE X (.BoolOp .Or (a :: b :: rest) pos) (tE T W (sOrV fa fb)) := by
  refine PE.mono (pe_orT ha hb) fun σ H Q ⟨Hz, ρ, F, z, h⟩ => ?_
  refine ⟨Hz, ρ, F, z, Aft.imp (Aft.frd h) fun v H1 ⟨Hz1, F1, d, ρ1, z1, s1, r1, q1⟩ => ?_⟩
  by_cases ho : okTruth d = true
  · rw [if_pos ho] at q1
    rw [hK]
    refine ⟨truth d, truV_of z1.sub ho r1, ?_⟩
    by_cases ht : truth d = true
    · rw [if_pos ht] at q1 ⊢
      exact (q1.fromB s1).fin z1 r1
    · rw [if_neg ht] at q1 ⊢
      exact ⟨Hz1, ρ1, F1, z1, q1.fromB s1⟩
  · rw [if_neg ho] at q1; cases q1
theorem e_and (hK : X.K = T.K) {rest : List Expr} (ha : PE X a (tE T W fa)) (hb : PE X (.BoolOp .And (b :: rest) pos) (tE T W fb)) : PE X (.BoolOp .And (a :: b :: rest) pos) (tE T W (sAndV fa fb)) := by
  refine PE.mono (pe_andT ha hb) fun σ H Q ⟨Hz, ρ, F, z, h⟩ => ?_
  refine ⟨Hz, ρ, F, z, Aft.imp (Aft.frd h) fun v H1 ⟨Hz1, F1, d, ρ1, z1, s1, r1, q1⟩ => ?_⟩
  by_cases ho : okTruth d = true
  · rw [if_pos ho] at q1
    rw [hK]
    refine ⟨truth d, truV_of z1.sub ho r1, ?_⟩
    by_cases ht : truth d = true
    · rw [if_pos ht] at q1 ⊢
      exact ⟨Hz1, ρ1, F1, z1, q1.fromB s1⟩
    · rw [if_neg ht] at q1 ⊢
      exact (q1.fromB s1).fin z1 r1
  · rw [if_neg ho] at q1; cases q1
theorem e_one {op : BoolOp} (h : PE X a (tE T W fa)) : PE X (.BoolOp op [a] pos) (tE T W fa) := pe_one h
theorem e_not (hK : X.K = T.K) (ha : PE X a (tE T W fa)) : PE X (.UnaryOp .Not a pos) (tE T W (sNotV fa)) := by
  refine PE.mono (pe_notT ha) fun σ H Q ⟨Hz, ρ, F, z, h⟩ => ?_
  refine ⟨Hz, ρ, F, z, Aft.imp (Aft.frd h) fun v H1 ⟨Hz1, F1, d, ρ1, z1, s1, r1, q1⟩ => ?_⟩
  by_cases ho : okTruth d = true
  · rw [if_pos ho] at q1
    rw [hK]
    exact ⟨truth d, truV_of z1.sub ho r1, (q1.fromB s1).fin z1 (.bl _)⟩
  · rw [if_neg ho] at q1; cases q1
theorem chain_ {g g' : D → D → Option B} {σ : L2.St} {H : Hp} {Q : VK} (h : tE T W (sChain g g' fa fb fc) σ H Q) : tChain (rOf T.K g) (rOf T.K g') (tE T W fa) (tE T W fb) (tE T W fc) σ H Q := by
  obtain ⟨Hz, ρ, F, z, h⟩ := h
  refine ⟨Hz, ρ, F, z, Aft.imp (Aft.frd h) fun v H1 ⟨Hz1, F1, d, ρ1, z1, s1, r1, q1⟩ => ?_⟩
  refine ⟨Hz1, ρ1, F1, z1, Aft.imp (Aft.frd (q1.fromB s1)) fun u H2 ⟨Hz2, F2, e, ρ2, z2, s2, r2, q2⟩ => ?_⟩
  have q3 := q2.fromB s2
  cases hg : g d e with
  | none => rw [hg] at q3; cases q3
  | some b =>
    rw [hg] at q3
    refine ⟨Hz2, d, e, b, z2.sub, r1.mono s2.z, r2, hg, fun v' H' n => ?_⟩
    have q4 : Aft T W Hz2 H2 F2 σ (PB T.K F2) (.ok b ρ2) fun v H1 => ∃ Hz1 F1 d ρ1, Zone T.K Hz1 H1 σ ρ1 F1 ∧ Step Hz2 H2 F2 Hz1 H1 F1 ∧ Rep T.K Hz1 v d ∧ Aft T W Hz2 H2 F2 σ (PB T.K F2) ((FK.lft (bOf d) ρ1).bnd fun k ρ4 =>
      if k = true then (fc ρ4).frd fun z ρ5 => FK.lft (g' e z) ρ5 else .ok (.fr (.bool false)) ρ4) Q := Aft.frd q3
    obtain ⟨Hz3, F3, w, ρ3, z3, s3, r3, q5⟩ := q4.made z2 n
    cases hw : bOf w with
    | none => rw [hw] at q5; cases q5
    | some k =>
      rw [hw] at q5
      rw [bOf_some hw] at r3
      refine ⟨k, rep_bl r3, ?_⟩
      have q6 := q5.fromB s3
      cases k with
      | false =>
        refine iteF ?_
        have q7 : Aft T W Hz3 H' F3 σ (PB T.K F3) (.ok (.fr (.bool false)) ρ3) Q := q6
        exact q7.fin z3 (.bl _)
      | true =>
        refine iteT ?_
        have q7 : Aft T W Hz3 H' F3 σ (PB T.K F3) ((fc ρ3).frd fun z ρ5 => FK.lft (g' e z) ρ5) Q := q6
        refine ⟨Hz3, ρ3, F3, z3, Aft.imp (Aft.frd q7) fun u' H4 ⟨Hz4, F4, e4, ρ4, z4, s4, r4, q8⟩ => ?_⟩
        cases hg' : g' e e4 with
        | none => rw [hg'] at q8; cases q8
        | some b' =>
          rw [hg'] at q8
          exact ⟨Hz4, e, e4, b', z4.sub, r2.mono (s3.z.trans s4.z), r4, hg', fun v H' n => (q8.fromB s4).made z4 n⟩
theorem e_chain {op op' : CmpOp} {g g' : D → D → Option B} (ho : OpR X (compareOp op) (rOf T.K g)) (ho' : OpR X (compareOp op') (rOf T.K g')) (ha : PE X a (tE T W fa)) (hb : PE X b (tE T W fb)) (hc : PE X c (tE T W fc)) (hm : lastMarks [op, op'] [b, c] = false) :
    PE X (.Compare a [op, op'] [b, c] pos) (tE T W (sChain g g' fa fb fc)) := PE.mono (pe_chain ho ho' ha hb hc hm) fun _ _ _ h => chain_ h
theorem t_chain {op op' : CmpOp} {g g' : D → D → Option B} (ho : OpR X (compareOp op) (rOf T.K g)) (ho' : OpR X (compareOp op') (rOf T.K g')) (ha : PE X a (tE T W fa)) (hb : PE X b (tE T W fb)) (hc : PE X c (tE T W fc)) (hm : lastMarks [op, op'] [b, c] = false) :
    PT X (.Compare a [op, op'] [b, c] pos) (tT T W (sTest (sChain g g' fa fb fc))) := by
  refine PT.mono (pt_chain ho ho' ha hb hc hm) fun σ H Q ⟨Hz, ρ, F, z, h⟩ => chain_ ?_
  refine ⟨Hz, ρ, F, z, Aft.imp (Aft.frd h) fun v H1 ⟨Hz1, F1, d, ρ1, z1, s1, r1, q1⟩ => ?_⟩
  obtain ⟨k, e, q1⟩ := q1.lft
  rw [bOf_some e] at r1
  exact ⟨k, rep_bl r1, (q1.fromT s1) k Hz1 H1 F1 z1 .refl rfl⟩
end
end FK
set_option Elab.async false
set_option linter.all false
set_option maxRecDepth 100000
/-! FK 5: statements, targets, loops. -/
namespace FK
open PySem PySem.Spec PyProof.Rows L2
/-- the slots out of L are as they were -/
def Chg (L : List Nat) (σ σ' : L2.St) : Prop := σ'.length = σ.length ∧ ∀ i, i ∉ L → σ'[i]? = σ[i]?
def Prot (P : List Nat) (σ σ' : L2.St) : Prop := σ'.length = σ.length ∧ ∀ i, i ∈ P → σ'[i]? = σ[i]?
theorem Prot.refl (P : List Nat) (σ : L2.St) : Prot P σ σ := ⟨rfl, fun _ _ => rfl⟩
theorem Prot.trans {P : List Nat} {a b c : L2.St} (h : Prot P a b) (k : Prot P b c) : Prot P a c := ⟨k.1.trans h.1, fun i hi => (k.2 i hi).trans (h.2 i hi)⟩
theorem Chg.refl (L : List Nat) (σ : L2.St) : Chg L σ σ := ⟨rfl, fun _ _ => rfl⟩
theorem Chg.trans {L M : List Nat} {a b c : L2.St} (h : Chg L a b) (k : Chg M b c) : Chg (L ++ M) a c := ⟨k.1.trans h.1, fun i hi => (k.2 i fun z => hi (List.mem_append_right _ z)).trans (h.2 i fun z => hi (List.mem_append_left _ z))⟩
theorem Chg.prot {L P : List Nat} {a b : L2.St} (h : Chg L a b) (d : ∀ i ∈ P, i ∉ L) : Prot P a b := ⟨h.1, fun i hi => h.2 i (d i hi)⟩
def AftS (T : Tx) (W : WX) (P : List Nat) (Hz H : Hp) (F : Nat → List Addr) (σ : L2.St) (r : RS) (D : Ends) : Prop := match r with
  | .bad => False
  | .nx ρ' => ∀ σ' Hz' H' F', Zone T.K Hz' H' σ' ρ' F' → Step Hz H F Hz' H' F' → Prot P σ σ' → D.nx σ' H'
  | .bk ρ' => ∀ σ' Hz' H' F', Zone T.K Hz' H' σ' ρ' F' → Step Hz H F Hz' H' F' → Prot P σ σ' → D.bk σ' H'
  | .ct ρ' => ∀ σ' Hz' H' F', Zone T.K Hz' H' σ' ρ' F' → Step Hz H F Hz' H' F' → Prot P σ σ' → D.ct σ' H'
  | .rt b ρ' => ∀ v σ' Hz' H' F', Zone T.K Hz' H' σ' ρ' F' → Step Hz H F Hz' H' F' → Prot P σ σ' → PB T.K F b v H Hz' H' F' → D.rt v H'
  | .exc x ρ' => ∀ cls d σ' Hz' H' F', Zone T.K Hz' H' σ' ρ' F' → Step Hz H F Hz' H' F' → Prot P σ σ' → T.xr x Hz' cls d H' → W cls d σ' H'
def tS (T : Tx) (W : WX) (P : List Nat) (f : SS) : TS := fun D σ H => ∃ Hz ρ F, Zone T.K Hz H σ ρ F ∧ AftS T W P Hz H F σ (f ρ) D
def AftG (T : Tx) (L : List Nat) (Hz H : Hp) (F : Nat → List Addr) (σ : L2.St) (o : Option Env) (Q : L2.St → Hp → Prop) : Prop := match o with
  | none => False
  | some ρ' => ∀ σ' Hz' H' F', Zone T.K Hz' H' σ' ρ' F' → Step Hz H F Hz' H' F' → Chg L σ σ' → Q σ' H'
abbrev SG := D → Env → Option Env
def tG (T : Tx) (L : List Nat) (g : SG) : TG := fun v σ H Q => ∃ Hz ρ F d, Zone T.K Hz H σ ρ F ∧ Rep T.K Hz v d ∧ AftG T L Hz H F σ (g d ρ) Q
abbrev SGs := List D → Env → Option Env
def tGs (T : Tx) (L : List Nat) (g : SGs) : TGs := fun vs σ H Q => ∃ Hz ρ F ds, Zone T.K Hz H σ ρ F ∧ RepL T.K Hz vs ds ∧ AftG T L Hz H F σ (g ds ρ) Q
section
variable {T : Tx} {W : WX} {P L : List Nat} {Hz H Hz1 H1 : Hp} {F F1 : Nat → List Addr} {σ σ1 : L2.St} {ρ : Env} {D : Ends}
theorem AftS.from {r : RS} (h : AftS T W P Hz H F σ r D) (s : Step Hz H F Hz1 H1 F1) (p : Prot P σ σ1) : AftS T W P Hz1 H1 F1 σ1 r D := by
  cases r with
  | bad => exact h
  | nx ρ' => exact fun σ' Hz' H' F' z st q => h σ' Hz' H' F' z (s.trans st) (p.trans q)
  | bk ρ' => exact fun σ' Hz' H' F' z st q => h σ' Hz' H' F' z (s.trans st) (p.trans q)
  | ct ρ' => exact fun σ' Hz' H' F' z st q => h σ' Hz' H' F' z (s.trans st) (p.trans q)
  | rt b ρ' => exact fun v σ' Hz' H' F' z st q k => h v σ' Hz' H' F' z (s.trans st) (p.trans q) (PB.from s _ _ _ _ _ k)
  | exc x ρ' => exact fun cls d σ' Hz' H' F' z st q k => h cls d σ' Hz' H' F' z (s.trans st) (p.trans q) k
theorem AftS.imp {r : RS} {D' : Ends} (h : AftS T W P Hz H F σ r D) (h1 : ∀ a b, D.nx a b → D'.nx a b) (h2 : ∀ a b, D.bk a b → D'.bk a b) (h3 : ∀ a b, D.ct a b → D'.ct a b) (h4 : ∀ a b, D.rt a b → D'.rt a b) : AftS T W P Hz H F σ r D' := by
  cases r with
  | bad => exact h
  | nx ρ' => exact fun σ' Hz' H' F' z st q => h1 _ _ (h σ' Hz' H' F' z st q)
  | bk ρ' => exact fun σ' Hz' H' F' z st q => h2 _ _ (h σ' Hz' H' F' z st q)
  | ct ρ' => exact fun σ' Hz' H' F' z st q => h3 _ _ (h σ' Hz' H' F' z st q)
  | rt b ρ' => exact fun v σ' Hz' H' F' z st q k => h4 _ _ (h v σ' Hz' H' F' z st q k)
  | exc x ρ' => exact h
/-- an evaluation ahead of a statement -/
theorem AftS.bS {α β : Type} {PP : α → β → Hp → Hp → Hp → (Nat → List Addr) → Prop} {r : Rs α} {k : α → Env → RS} (h : AftS T W P Hz H F σ (r.bS k) D) :
    Aft T W Hz H F σ PP r fun y H1 => ∃ Hz1 F1 a ρ1, Zone T.K Hz1 H1 σ ρ1 F1 ∧ Step Hz H F Hz1 H1 F1 ∧ PP a y H Hz1 H1 F1 ∧ AftS T W P Hz H F σ (k a ρ1) D := by
  cases r with
  | bad => exact h
  | ok a ρ' => exact fun y Hz' H' F' z st p => ⟨Hz', F', a, ρ', z, st, p, h⟩
  | exc x ρ' => exact fun cls d Hz' H' F' z st q => h cls d σ Hz' H' F' z st (.refl _ _) q
theorem new_zone {b : B} {v : V} {H' : Hp} (z : Zone T.K Hz H σ ρ F) (n : New T.K Hz H b v H') : ∃ Hz', Zone T.K Hz' H' σ ρ F ∧ Step Hz H F Hz' H' F ∧ PB T.K F b v H Hz' H' F := by
  obtain ⟨Hz', fp, s1, s2, s3, nz, m, q⟩ := n
  have no : ∀ a, Own F a → Hz' a = none := fun a ha => by
    cases e : Hz' a with
    | none => rfl
    | some o =>
      rcases nz a (by rw [e]; exact fun z => nomatch z) with w | w
      · exact absurd (z.notIn ha) w
      · exact absurd w (z.there ha)
  refine ⟨Hz', z.keep s1 s3 (fun a ha => ?_) no, ⟨s1, fun a o e _ => s2 a o e, fun a e => (nz a e).elim .inl fun w => .inr (.inl w), fun a ha => .inr ha, fun a e => ?_⟩, ⟨fp, m, fun a ha => ⟨(q a ha).1, fun w => z.there w (q a ha).2, .inl (q a ha).2⟩⟩⟩
  · obtain ⟨o, e⟩ := ex_of_ne (z.there ha)
    rw [e]; exact s2 a o e
  · obtain ⟨o, e⟩ := ex_of_ne e
    rw [s2 a o e]; exact fun z => nomatch z
/-! ### a slot is stored -/
def putF (F : Nat → List Addr) (i : Nat) (fp : List Addr) : Nat → List Addr := fun j => if j = i then fp else F j
theorem putF_same {i : Nat} {fp : List Addr} : putF F i fp i = fp := if_pos rfl
theorem putF_ne {i j : Nat} {fp : List Addr} (h : j ≠ i) : putF F i fp j = F j := if_neg h
theorem own_put {i : Nat} {fp : List Addr} {a : Addr} (h : Own (putF F i fp) a) : a ∈ fp ∨ ∃ j, j ≠ i ∧ a ∈ F j := by
  obtain ⟨j, hj⟩ := h
  by_cases e : j = i
  · subst e; rw [putF_same] at hj; exact .inl hj
  · rw [putF_ne e] at hj; exact .inr ⟨j, e, hj⟩
theorem Zone.store {K : Fg} {i : Nat} {b : B} {v : V} {fp : List Addr} (z : Zone K Hz H σ ρ F) (hi : i < ρ.length) (m : MRep K Hz H fp v b) (q : ∀ a ∈ fp, Hz a = none ∧ ¬ Own F a) : Zone K Hz H (σ.set i (some v)) (ρ.set i b) (putF F i fp) where
  sub := z.sub
  len := by rw [List.length_set, List.length_set]; exact z.len
  slot := fun j c h hc => by
    by_cases e : j = i
    · subst e
      rw [List.getElem?_set_self hi] at h
      cases h
      exact ⟨v, List.getElem?_set_self (by rw [← z.len]; exact hi), by rw [putF_same]; exact m⟩
    · rw [List.getElem?_set_ne (Ne.symm e)] at h
      obtain ⟨w, h1, h2⟩ := z.slot j c h hc
      exact ⟨w, by rw [List.getElem?_set_ne (Ne.symm e)]; exact h1, by rw [putF_ne e]; exact h2⟩
  out := fun j a h => by
    by_cases e : j = i
    · subst e; rw [putF_same] at h; exact (q a h).1
    · rw [putF_ne e] at h; exact z.out j a h
  apart := fun j k a h1 h2 => by
    by_cases e : j = i
    · subst e
      rw [putF_same] at h1
      by_cases e2 : k = j
      · exact e2.symm
      · rw [putF_ne e2] at h2; exact absurd ⟨k, h2⟩ (q a h1).2
    · rw [putF_ne e] at h1
      by_cases e2 : k = i
      · subst e2; rw [putF_same] at h2; exact absurd ⟨j, h1⟩ (q a h2).2
      · rw [putF_ne e2] at h2; exact z.apart j k a h1 h2
  dead := fun j h => by
    by_cases e : j = i
    · subst e
      rw [putF_same]
      rcases h with h | h
      · rw [List.getElem?_set_self hi] at h; cases h
      · rw [List.getElem?_set_self hi] at h; cases h; exact m
    · rw [List.getElem?_set_ne (Ne.symm e)] at h
      rw [putF_ne e]; exact z.dead j h
theorem Step.store {i : Nat} {fp : List Addr} (q : ∀ a ∈ fp, H a = none ∨ Own F a) : Step Hz H F Hz H (putF F i fp) :=
  ⟨.refl _, fun _ _ h _ => h, fun _ h => .inl h, fun a h => (own_put h).elim (q a) fun ⟨j, _, hj⟩ => .inr ⟨j, hj⟩, fun _ h => h⟩
/-- .. a temp that came by a step -/
theorem Step.storeAt {i : Nat} {fp : List Addr} (s : Step Hz H F Hz1 H1 F1) (q : ∀ a ∈ fp, H a = none ∨ Own F a) : Step Hz H F Hz1 H1 (putF F1 i fp) :=
  ⟨s.z, s.fr, s.nz, fun a h => (own_put h).elim (q a) fun ⟨j, _, hj⟩ => s.no a ⟨j, hj⟩, s.dom⟩
theorem chg_set {i : Nat} {v : Option V} : Chg [i] σ (σ.set i v) := ⟨List.length_set .., fun j h => List.getElem?_set_ne fun e => h (by simp [e])⟩
end
/-! ### targets -/
def gNm (i : Nat) : SG := fun d ρ => if i < ρ.length then some (ρ.set i (.fr d)) else none
def gTp (n : Nat) (g : SGs) : SG := fun d ρ => match d with
  | .tuple ds => if ds.length = n then g ds ρ else none
  | _ => none
def gsNil : SGs := fun ds ρ => match ds with
  | [] => some ρ
  | _ => none
def gsCons (g : SG) (h : SGs) : SGs := fun ds ρ => match ds with
  | [] => none
  | d :: r => (g d ρ).bind fun ρ1 => h r ρ1
section
variable {X : Cx} {T : Tx} {W : WX} {L M : List Nat} {e : Expr} {es : List Expr} {g : SG} {h : SGs} {pos : Pos}
theorem PG.mono {X : Cx} {e : Expr} {t t' : TG} (h : PG X e t) (f : ∀ v σ H Q, t' v σ H Q → t v σ H Q) : PG X e t' := ⟨fun pins s σ H v u Q I r q => h.run pins s σ H v u Q I r (f v σ H Q q)⟩
theorem PGs.mono {X : Cx} {e : List Expr} {t t' : TGs} (h : PGs X e t) (f : ∀ v σ H Q, t' v σ H Q → t v σ H Q) : PGs X e t' := ⟨fun pins s σ H v u Q I r q => h.run pins s σ H v u Q I r (f v σ H Q q)⟩
theorem g_name {i : Nat} {x : Str} (hN : X.N.Nodup) (hi : X.N[i]? = some x) (hx : Loc X.env.scope x) (hf : X.fn x = true ∨ X.env.scope.names.lookup x = some .local) : PG X (.Name x pos) (tG T [i] (gNm i)) := by
  refine PG.mono (pg_name hN hi hx hf) fun v σ H Q ⟨Hz, ρ, F, d, z, r, h⟩ => ?_
  unfold gNm at h
  by_cases hl : i < ρ.length
  · rw [if_pos hl] at h
    exact h _ Hz H _ (z.store (b := .fr d) (fp := []) hl ⟨rfl, r⟩ fun a ha => nomatch ha) (.store fun a ha => nomatch ha) chg_set
  · rw [if_neg hl] at h; cases h
theorem gs_nil : PGs X [] (tGs T [] gsNil) := by
  refine PGs.mono pgs_nil fun vs σ H Q ⟨Hz, ρ, F, ds, z, r, h⟩ => ?_
  cases r with
  | nil => exact ⟨rfl, h σ Hz H F z .refl (.refl _ _)⟩
  | cons _ _ => cases h
theorem AftG.from {L : List Nat} {Hz H Hz1 H1 : Hp} {F F1 : Nat → List Addr} {σ σ1 : L2.St} {o : Option Env} {Q : L2.St → Hp → Prop} {L1 L2' : List Nat} (h : AftG T L Hz H F σ o Q) (s : Step Hz H F Hz1 H1 F1) (c : Chg L1 σ σ1) (hl : L = L1 ++ L2') : AftG T L2' Hz1 H1 F1 σ1 o Q := by
  subst hl
  cases o with
  | none => exact h
  | some ρ' => exact fun σ' Hz' H' F' z st q => h σ' Hz' H' F' z (s.trans st) (c.trans q)
theorem gs_cons (h1 : PG X e (tG T L g)) (h2 : PGs X es (tGs T M h)) (hs : (assignEach (e :: es) X.env).map (·.2) = assign e X.env :: (assignEach es X.env).map (·.2)) : PGs X (e :: es) (tGs T (L ++ M) (gsCons g h)) := by
  refine PGs.mono (pgs_cons h1 h2 hs) fun vs σ H Q ⟨Hz, ρ, F, ds, z, r, h⟩ => ?_
  cases r with
  | nil => cases h
  | @cons v vs d ds r rr =>
    refine ⟨v, vs, rfl, Hz, ρ, F, d, z, r, ?_⟩
    have h : AftG T (L ++ M) Hz H F σ ((g d ρ).bind fun ρ1 => _) Q := h
    cases e : g d ρ with
    | none => rw [e] at h; cases h
    | some ρ1 =>
      rw [e] at h
      exact fun σ1 Hz1 H1 F1 z1 s1 c1 => ⟨Hz1, ρ1, F1, ds, z1, rr.mono s1.z, h.from s1 c1 rfl⟩
theorem g_tup {n : Nat} (hK : X.K = T.K) {k : Nat} (hc : X.calm = true) (hg : PGs X es (tGs T L h)) (hn : (assignEach es X.env).length = n) (hst : (assignEach es X.env).findIdx? (·.1) = none) : PG X (.Tuple es k pos) (tG T L (gTp n h)) := by
  refine PG.mono (pg_tup hc hg hn hst) fun v σ H Q ⟨Hz, ρ, F, d, z, r, h⟩ => ?_
  cases r with
  | @tup a xs ds hq rr =>
    have h : AftG T L Hz H F σ (if ds.length = n then _ else none) Q := h
    by_cases hl : ds.length = n
    · rw [if_pos hl] at h
      exact ⟨_, _, rfl, by rw [hK]; exact seqT_same z.sub hq, by rw [rr.length]; exact hl, Hz, ρ, F, ds, z, rr, h⟩
    · rw [if_neg hl] at h; cases h
  | _ => cases h
end
/-! ### statements -/
def sSeq (f g : SS) : SS := fun ρ => match f ρ with
  | .nx ρ' => g ρ'
  | r => r
def sNext : SS := fun ρ => .nx ρ
def sExpr (f : SE) : SS := fun ρ => (f ρ).bS fun _ ρ1 => .nx ρ1
def sRet (f : SE) : SS := fun ρ => (f ρ).bS fun b ρ1 => .rt b ρ1
def sMove (i : Nat) : SE := fun ρ => match ρ[i]? with
  | some (.fr d) => .ok (.fr d) ρ
  | some (.ow d) => .ok (.ow d) (ρ.set i .no)
  | _ => .bad
def sIfS (c : STs) (f g : SS) : SS := fun ρ => (c ρ).bS fun b ρ1 => if b = true then f ρ1 else g ρ1
def frB (keep : Bool) : B → Option B
  | .fr d => some (.fr d)
  | .ow d => some (if keep = true then .ow d else .fr d)
  | _ => none
/-- name = e, the value frozen or kept as it came -/
def sSet (keep : Bool) (i : Nat) (f : SE) : SS := fun ρ => (f ρ).bS fun b ρ1 => match frB keep b with
  | some b' => if i < ρ1.length then .nx (ρ1.set i b') else .bad
  | none => .bad
/-- target = e -/
def sAsg (f : SE) (g : SG) : SS := fun ρ => (f ρ).bS fun b ρ1 => match frz b with
  | some d => (match g d ρ1 with
    | some ρ2 => .nx ρ2
    | none => .bad)
  | none => .bad
def forR (g : SG) (b : SS) : List D → SS
  | [], ρ => .nx ρ
  | d :: ds, ρ => match g d ρ with
    | none => .bad
    | some ρ1 => (match b ρ1 with
      | .nx ρ2 => forR g b ds ρ2
      | .ct ρ2 => forR g b ds ρ2
      | .bk ρ2 => .nx ρ2
      | r => r)
abbrev SI := Env → Rs (List D)
def sFor (it : SI) (g : SG) (b : SS) : SS := fun ρ => (it ρ).bS fun ds ρ1 => forR g b ds ρ1
def whl (c : STs) (b : SS) : Nat → SS
  | 0, _ => .bad
  | n + 1, ρ => (c ρ).bS fun k ρ1 => if k = true then (match b ρ1 with
      | .nx ρ2 => whl c b n ρ2
      | .ct ρ2 => whl c b n ρ2
      | .bk ρ2 => .nx ρ2
      | r => r) else .nx ρ1
open Classical in
noncomputable def sWhile (c : STs) (b : SS) : SS := fun ρ => if h : ∃ n, whl c b n ρ ≠ .bad then whl c b (choose h) ρ else .bad
section
variable {X : Cx} {T : Tx} {W : WX} {P L : List Nat} {e c : Expr} {st : Stmt} {sts rest : List Stmt} {f : SE} {fs gs : SS} {ct : STs} {g : SG} {pos pos' : Pos}
theorem s_nil : PSs X [] (tS T W P sNext) := PSs.mono pss_nil fun D σ H ⟨Hz, ρ, F, z, h⟩ => h σ Hz H F z .refl (.refl _ _)
theorem s_pass : PS X (.Pass pos) (tS T W P sNext) := PS.mono ps_pass fun D σ H ⟨Hz, ρ, F, z, h⟩ => h σ Hz H F z .refl (.refl _ _)
theorem s_break : PS X (.Break pos) (tS T W P fun ρ => .bk ρ) := PS.mono ps_break fun D σ H ⟨Hz, ρ, F, z, h⟩ => h σ Hz H F z .refl (.refl _ _)
theorem s_cont : PS X (.Continue pos) (tS T W P fun ρ => .ct ρ) := PS.mono ps_continue fun D σ H ⟨Hz, ρ, F, z, h⟩ => h σ Hz H F z .refl (.refl _ _)
theorem s_cons (h1 : PS X st (tS T W P fs)) (h2 : PSs X rest (tS T W P gs)) : PSs X (st :: rest) (tS T W P (sSeq fs gs)) := by
  refine PSs.mono (pss_cons h1 h2) fun D σ H ⟨Hz, ρ, F, z, h⟩ => ⟨Hz, ρ, F, z, ?_⟩
  unfold sSeq at h
  cases e : fs ρ with
  | nx ρ' =>
    rw [e] at h
    exact fun σ' Hz' H' F' z' s' p' => ⟨Hz', ρ', F', z', AftS.from h s' p'⟩
  | bad => rw [e] at h; exact h
  | rt _ _ => rw [e] at h; exact h
  | bk _ => rw [e] at h; exact h
  | ct _ => rw [e] at h; exact h
  | exc _ _ => rw [e] at h; exact h
theorem s_expr (he : PE X e (tE T W f)) (hs : swapsWith e none pos.line X.env = pure false) : PS X (.Expr e pos) (tS T W P (sExpr f)) := by
  refine PS.mono (ps_expr he hs) fun D σ H ⟨Hz, ρ, F, z, h⟩ => ⟨Hz, ρ, F, z, Aft.imp (AftS.bS (PP := PB T.K F) h) fun v H1 ⟨Hz1, F1, b, ρ1, z1, s1, r1, q1⟩ => ?_⟩
  exact q1 σ Hz1 H1 F1 z1 s1 (.refl _ _)
theorem s_doc {x : Str} {j : Nat} : PS X (.Expr (.Constant (.str x) j pos) pos') (tS T W P sNext) := PS.mono ps_doc fun D σ H ⟨Hz, ρ, F, z, h⟩ => h σ Hz H F z .refl (.refl _ _)
theorem s_ret (he : PE X e (tE T W f)) : PS X (.Return (some e) pos) (tS T W P (sRet f)) := by
  refine PS.mono (ps_ret he) fun D σ H ⟨Hz, ρ, F, z, h⟩ => ⟨Hz, ρ, F, z, Aft.imp (AftS.bS (PP := PB T.K F) h) fun v H1 ⟨Hz1, F1, b, ρ1, z1, s1, r1, q1⟩ => ?_⟩
  exact q1 v σ Hz1 H1 F1 z1 s1 (.refl _ _) r1
theorem s_retN : PS X (.Return none pos) (tS T W P fun ρ => .rt (.fr .none) ρ) := PS.mono ps_retN fun D σ H ⟨Hz, ρ, F, z, h⟩ =>
  h .non σ Hz H F z .refl (.refl _ _) ⟨[], ⟨rfl, .non⟩, fun a ha => nomatch ha⟩
theorem Zone.clear {K : Fg} {Hz H : Hp} {σ : L2.St} {ρ : Env} {F : Nat → List Addr} {i : Nat} (z : Zone K Hz H σ ρ F) : Zone K Hz H σ (ρ.set i .no) (putF F i []) where
  sub := z.sub
  len := by rw [List.length_set]; exact z.len
  slot := fun j c h hc => by
    by_cases e : j = i
    · subst e
      by_cases hi : j < ρ.length
      · rw [List.getElem?_set_self hi] at h; cases h; exact absurd rfl hc
      · rw [List.getElem?_eq_none (by simpa using hi)] at h; cases h
    · rw [List.getElem?_set_ne (Ne.symm e)] at h
      rw [putF_ne e]; exact z.slot j c h hc
  out := fun j a h => by
    by_cases e : j = i
    · subst e; rw [putF_same] at h; cases h
    · rw [putF_ne e] at h; exact z.out j a h
  apart := fun j k a h1 h2 => by
    by_cases e : j = i
    · subst e; rw [putF_same] at h1; cases h1
    · by_cases e2 : k = i
      · subst e2; rw [putF_same] at h2; cases h2
      · rw [putF_ne e] at h1; rw [putF_ne e2] at h2; exact z.apart j k a h1 h2
  dead := fun j h => by
    by_cases e : j = i
    · subst e; exact putF_same
    · rw [List.getElem?_set_ne (Ne.symm e)] at h
      rw [putF_ne e]; exact z.dead j h
theorem e_move {i : Nat} {x : Str} (hN : X.N[i]? = some x) (hv : Vis X.env.scope x) (hd : (x == ("__debug__" : Str)) = false) (hcd : (x == ("__classdict__" : Str)) = false) : PE X (.Name x pos) (tE T W (sMove i)) := by
  refine PE.mono (pe_var hN hv hd hcd) fun σ H Q ⟨Hz, ρ, F, z, h⟩ => ?_
  unfold sMove at h
  cases q : ρ[i]? with
  | none => rw [q] at h; cases h
  | some b =>
    rw [q] at h
    cases b with
    | fr d =>
      obtain ⟨v, h1, m⟩ := z.slot i _ q (fun w => nomatch w)
      exact ⟨v, h1, Aft.fin h z m.2⟩
    | ow d =>
      obtain ⟨v, h1, m⟩ := z.slot i _ q (fun w => nomatch w)
      refine ⟨v, h1, h v Hz H _ (z.clear (i := i)) (.store fun a ha => nomatch ha) ⟨F i, m, fun a ha => ⟨z.out i a ha, fun w => ?_, .inr ⟨i, ha⟩⟩⟩⟩
      rcases own_put w with w | ⟨j, hj, w⟩
      · cases w
      · exact hj (z.apart j i a w ha)
    | _ => cases h
theorem s_if {a b : List Stmt} (hc : PT X c (tT T W ct)) (ha : PSs X a (tS T W P fs)) (hb : PSs X b (tS T W P gs)) : PS X (.If c a b pos) (tS T W P (sIfS ct fs gs)) := by
  refine PS.mono (ps_if hc ha hb) fun D σ H ⟨Hz, ρ, F, z, h⟩ => ⟨Hz, ρ, F, z, Aft.imp (AftS.bS (PP := PT_) h) fun bb H1 ⟨Hz1, F1, kk, ρ1, z1, s1, r1, q1⟩ => ?_⟩
  cases r1
  cases bb with
  | true => exact iteT ⟨Hz1, ρ1, F1, z1, AftS.from q1 s1 (.refl _ _)⟩
  | false => exact iteF ⟨Hz1, ρ1, F1, z1, AftS.from q1 s1 (.refl _ _)⟩
/-- a value stored, kept or frozen -/
theorem keepB {Hz H Hz1 H1 : Hp} {F F1 : Nat → List Addr} {σ : L2.St} {ρ1 : Env} {keep : Bool} {b b' : B} {v : V} (hb : frB keep b = some b') (z : Zone T.K Hz1 H1 σ ρ1 F1) (s : Step Hz H F Hz1 H1 F1) (p : PB T.K F b v H Hz1 H1 F1) :
    ∃ Hz2 fp, Zone T.K Hz2 H1 σ ρ1 F1 ∧ Step Hz H F Hz2 H1 F1 ∧ MRep T.K Hz2 H1 fp v b' ∧ ∀ a ∈ fp, Hz2 a = none ∧ ¬ Own F1 a ∧ (H a = none ∨ Own F a) := by
  cases b with
  | no => cases hb
  | ob _ _ => cases hb
  | fr d =>
    cases hb
    obtain ⟨fp, m, q⟩ := p
    exact ⟨Hz1, fp, z, s, m, q⟩
  | ow d =>
    cases keep with
    | true =>
      cases hb
      obtain ⟨fp, m, q⟩ := p
      exact ⟨Hz1, fp, z, s, m, q⟩
    | false =>
      cases hb
      obtain ⟨Hz2, z2, s2, r2⟩ := freeze (b := .ow d) rfl z s p
      exact ⟨Hz2, [], z2, s2, ⟨rfl, r2⟩, fun a ha => nomatch ha⟩
theorem set_aft {Hz H Hz1 H1 : Hp} {F F1 : Nat → List Addr} {σ : L2.St} {ρ1 : Env} {keep : Bool} {i : Nat} {b : B} {v : V} {D : Ends} (hP : i ∉ P) (z : Zone T.K Hz1 H1 σ ρ1 F1) (s : Step Hz H F Hz1 H1 F1) (p : PB T.K F b v H Hz1 H1 F1)
    (h : AftS T W P Hz H F σ (match frB keep b with
      | some b' => if i < ρ1.length then .nx (ρ1.set i b') else .bad
      | none => .bad) D) : D.nx (σ.set i (some v)) H1 := by
  cases e : frB keep b with
  | none => rw [e] at h; cases h
  | some b' =>
    rw [e] at h
    by_cases hl : i < ρ1.length
    · simp only [hl, if_true] at h
      obtain ⟨Hz2, fp, z2, s2, m2, q2⟩ := keepB e z s p
      exact h _ Hz2 H1 _ (z2.store hl m2 fun a ha => ⟨(q2 a ha).1, (q2 a ha).2.1⟩) (s2.storeAt fun a ha => (q2 a ha).2.2) (chg_set.prot fun j hj hm => by
        have : j = i := by simpa using hm
        subst this; exact hP hj)
    · simp only [hl, if_false] at h
      exact False.elim h
theorem s_set {keep : Bool} {i : Nat} {x : Str} (hP : i ∉ P) (hN : X.N.Nodup) (hi : X.N[i]? = some x) (hx : Loc X.env.scope x) (he : PE X e (tE T W f)) (hs : swapsWith e (some (.Name x pos')) pos.line X.env = pure false) (hf : X.fn x = true ∨ X.env.scope.names.lookup x = some .local) :
    PS X (.Assign [.Name x pos'] e pos) (tS T W P (sSet keep i f)) := by
  refine PS.mono (ps_set hN hi hx he hs hf) fun D σ H ⟨Hz, ρ, F, z, h⟩ => ⟨Hz, ρ, F, z, Aft.imp (AftS.bS (PP := PB T.K F) h) fun v H1 ⟨Hz1, F1, b, ρ1, z1, s1, r1, q1⟩ => ?_⟩
  exact set_aft hP z1 s1 r1 q1
theorem s_asg {tg : Expr} (hP : ∀ i ∈ P, i ∉ L) (he : PE X e (tE T W f)) (hg : PG X tg (tG T L g)) (hs : swapsWithSole [tg] e pos.line X.env = pure false) (hw : swappedStores [tg] e X.env = pure none) (h1 : (assignEach [tg] X.env).map (·.2) = [assign tg X.env]) :
    PS X (.Assign [tg] e pos) (tS T W P (sAsg f g)) := by
  refine PS.mono (ps_asg he hg hs hw h1) fun D σ H ⟨Hz, ρ, F, z, h⟩ => ⟨Hz, ρ, F, z, Aft.imp (AftS.bS (PP := PB T.K F) h) fun v H1 ⟨Hz1, F1, b, ρ1, z1, s1, r1, q1⟩ => ?_⟩
  cases e1 : frz b with
  | none => rw [e1] at q1; cases q1
  | some d =>
    rw [e1] at q1
    obtain ⟨Hz2, z2, s2, r2⟩ := freeze e1 z1 s1 r1
    refine ⟨Hz2, ρ1, F1, d, z2, r2, ?_⟩
    cases e2 : g d ρ1 with
    | none => simp only [e2] at q1; cases q1
    | some ρ2 =>
      simp only [e2] at q1
      exact fun σ' Hz' H' F' z' st c => q1 σ' Hz' H' F' z' (s2.trans st) (c.prot hP)
end
/-! ### loops -/
/-- what an iterator gives: the data ds, one by one; Hz stands still meanwhile -/
def IterOk (K : Fg) (Hz : Hp) (ds : List D) (J : It) : Prop := ∃ (G : Hp → Prop) (Y : Nat → Hp → V → Hp → Prop), Walk J ds.length G Y ∧ (∀ H, Same Hz H → G H) ∧
  ∀ i H x H' Hz2, i < ds.length → Y i H x H' → Same Hz Hz2 → Same Hz2 H → ∃ d, ds[i]? = some d ∧ New K Hz2 H (.fr d) x H'
def PIt (K : Fg) : List D → It → Hp → Hp → Hp → (Nat → List Addr) → Prop := fun ds J _ Hz' _ _ => IterOk K Hz' ds J
def tI (T : Tx) (W : WX) (f : SI) : TI := fun σ H R => ∃ Hz ρ F, Zone T.K Hz H σ ρ F ∧ Aft T W Hz H F σ (PIt T.K) (f ρ) R
section
variable {X : Cx} {T : Tx} {W : WX} {P L : List Nat} {e c : Expr} {st : Stmt} {sts rest : List Stmt} {f : SE} {fs gs : SS} {ct : STs} {g : SG} {it : SI} {pos pos' : Pos}
theorem s_for {tg iter : Expr} {body : List Stmt} (hP : ∀ i ∈ P, i ∉ L) (hp : PassesOwn (model X.prog X.w) X.A X.env X.xe) (hc : X.calm = true) (hi : PI X tg iter (tI T W it)) (hg : PG X tg (tG T L g)) (hb : PSs X body (tS T W P fs)) (hs : ∀ x, foldedSetIterable iter X.env x = pure x) :
    PS X (.For tg iter body [] pos) (tS T W P (sFor it g fs)) := by
  refine PS.mono (ps_for hp hc hi hg hb hs) fun D σ H ⟨Hz, ρ, F, z, h⟩ => ⟨Hz, ρ, F, z, Aft.imp (AftS.bS (PP := PIt T.K) h) fun J H1 ⟨Hz1, F1, ds, ρ1, z1, s1, r1, q1⟩ => ?_⟩
  obtain ⟨G, Y, wk, hG, hY⟩ := r1
  have q2 := AftS.from q1 s1 (.refl _ _)
  refine for_it wk (fun i σ' H' => ∃ Hz' ρ' F', Zone T.K Hz' H' σ' ρ' F' ∧ Same Hz1 Hz' ∧ AftS T W P Hz' H' F' σ' (forR g fs (ds.drop i) ρ') D) ⟨Hz1, ρ1, F1, z1, .refl _, q2⟩
    (fun i σ' H' _ ⟨Hz', ρ', F', z', sm, _⟩ => hG H' (sm.trans z'.sub)) (fun i x σ' H' H'' hi ⟨Hz', ρ', F', z', sm, q⟩ y => ?_) fun σ' H' ⟨Hz', ρ', F', z', sm, q⟩ => ?_
  · obtain ⟨d, hd, n⟩ := hY i H' x H'' Hz' hi y sm z'.sub
    obtain ⟨Hz2, z2, s2, pb⟩ := new_zone z' n
    obtain ⟨fp, m, _⟩ := pb
    have hdr : ds.drop i = d :: ds.drop (i + 1) := by
      rw [List.drop_eq_getElem_cons hi]
      rw [List.getElem?_eq_getElem hi] at hd
      cases hd; rfl
    rw [hdr] at q
    refine ⟨Hz2, ρ', F', d, z2, m.2, ?_⟩
    have q := AftS.from q s2 (.refl _ _)
    unfold forR at q
    cases eg : g d ρ' with
    | none => rw [eg] at q; cases q
    | some ρ2 =>
      rw [eg] at q
      intro σ3 Hz3 H3 F3 z3 s3 c3
      have q := AftS.from q s3 (c3.prot hP)
      refine ⟨Hz3, ρ2, F3, z3, ?_⟩
      have sm3 : Same Hz1 Hz3 := sm.trans (s2.z.trans s3.z)
      cases eb : fs ρ2 with
      | bad => simp only [eb] at q; cases q
      | nx ρ4 => simp only [eb] at q; exact fun σ4 Hz4 H4 F4 z4 s4 p4 => ⟨Hz4, ρ4, F4, z4, sm3.trans s4.z, AftS.from q s4 p4⟩
      | ct ρ4 => simp only [eb] at q; exact fun σ4 Hz4 H4 F4 z4 s4 p4 => ⟨Hz4, ρ4, F4, z4, sm3.trans s4.z, AftS.from q s4 p4⟩
      | bk ρ4 => simp only [eb] at q; exact q
      | rt b ρ4 => simp only [eb] at q; exact q
      | exc x ρ4 => simp only [eb] at q; exact q
  · rw [List.drop_length] at q
    exact q σ' Hz' H' F' z' .refl (.refl _ _)
theorem whl_more {c : STs} {b : SS} : ∀ {n : Nat} {ρ : Env}, whl c b n ρ ≠ .bad → whl c b (n + 1) ρ = whl c b n ρ
  | 0, ρ, h => absurd rfl h
  | n + 1, ρ, h => by
    have h' := h
    unfold whl at h' ⊢
    cases e : c ρ with
    | bad => rfl
    | exc x ρ1 => rfl
    | ok k ρ1 =>
      simp only [e, Rs.bS] at h' ⊢
      cases k with
      | false => rfl
      | true =>
        simp only [if_true] at h' ⊢
        cases eb : b ρ1 with
        | nx ρ2 => simp only [eb] at h' ⊢; exact whl_more h'
        | ct ρ2 => simp only [eb] at h' ⊢; exact whl_more h'
        | _ => rfl
theorem whl_le {c : STs} {b : SS} {n : Nat} {ρ : Env} (h : whl c b n ρ ≠ .bad) : ∀ m, whl c b (n + m) ρ = whl c b n ρ
  | 0 => rfl
  | m + 1 => by
    have ih := whl_le h m
    rw [← Nat.add_assoc, whl_more (by rw [ih]; exact h), ih]
theorem sWhile_eq {c : STs} {b : SS} {n : Nat} {ρ : Env} (h : whl c b n ρ ≠ .bad) : sWhile c b ρ = whl c b n ρ := by
  have hx : ∃ n, whl c b n ρ ≠ .bad := ⟨n, h⟩
  unfold sWhile
  rw [dif_pos hx]
  have hc := Classical.choose_spec hx
  rcases Nat.le_total n (Classical.choose hx) with hle | hle
  · obtain ⟨m, hm⟩ := Nat.exists_eq_add_of_le hle
    rw [hm]; exact whl_le h m
  · obtain ⟨m, hm⟩ := Nat.exists_eq_add_of_le hle
    have := whl_le hc m
    rw [← hm] at this
    exact this.symm
theorem s_while {body : List Stmt} (hp : PassesOwn (model X.prog X.w) X.A X.env X.xe) (hc : PT X c (tT T W ct)) (hb : PSs X body (tS T W P fs)) : PS X (.While c body [] pos) (tS T W P (sWhile ct fs)) := by
  refine PS.mono (ps_while hp hc hb) fun D σ H ⟨Hz, ρ, F, z, h⟩ => ?_
  refine ⟨fun m σ' H' => ∃ Hz' ρ' F', Zone T.K Hz' H' σ' ρ' F' ∧ AftS T W P Hz' H' F' σ' (whl ct fs m ρ') D, ?_, fun m σ' H' ⟨Hz', ρ', F', z', q⟩ => ?_⟩
  · unfold sWhile at h
    by_cases hx : ∃ n, whl ct fs n ρ ≠ .bad
    · rw [dif_pos hx] at h
      exact ⟨_, Hz, ρ, F, z, h⟩
    · rw [dif_neg hx] at h; cases h
  · cases m with
    | zero => cases q
    | succ m =>
      unfold whl at q
      refine ⟨Hz', ρ', F', z', Aft.imp (AftS.bS (PP := PT_) q) fun bb H1 ⟨Hz1, F1, kk, ρ1, z1, s1, r1, q1⟩ => ?_⟩
      cases r1
      cases bb with
      | false => exact iteF (q1 σ' Hz1 H1 F1 z1 s1 (.refl _ _))
      | true =>
        refine iteT ?_
        have q2 : AftS T W P Hz1 H1 F1 σ' _ D := AftS.from q1 s1 (.refl _ _)
        simp only [if_true] at q2
        refine ⟨fun σ4 H4 => ∃ Hz4 ρ4 F4, Zone T.K Hz4 H4 σ4 ρ4 F4 ∧ AftS T W P Hz4 H4 F4 σ4 (whl ct fs m ρ4) D, fun σ4 H4 h4 => ⟨m, Nat.lt_succ_self _, h4⟩, Hz1, ρ1, F1, z1, ?_⟩
        cases eb : fs ρ1 with
        | bad => simp only [eb] at q2; cases q2
        | nx ρ4 => simp only [eb] at q2; exact fun σ4 Hz4 H4 F4 z4 s4 p4 => ⟨Hz4, ρ4, F4, z4, AftS.from q2 s4 p4⟩
        | ct ρ4 => simp only [eb] at q2; exact fun σ4 Hz4 H4 F4 z4 s4 p4 => ⟨Hz4, ρ4, F4, z4, AftS.from q2 s4 p4⟩
        | bk ρ4 => simp only [eb] at q2; exact q2
        | rt b ρ4 => simp only [eb] at q2; exact q2
        | exc x ρ4 => simp only [eb] at q2; exact q2
end
end FK
set_option Elab.async false
set_option linter.all false
set_option maxRecDepth 100000
/-! FK 6: functions and calls. -/
namespace FK
open PySem PySem.Spec PyProof.Rows L2
/-- what a def promises: what its closure computes of the arguments' bindings -/
def spF (T : Tx) (n : Nat) (g : SE) : Sp := fun vs H Q E => vs.length = n ∧ tE T (fun cls d _ H' => E cls d H') g (vs.map some) H Q
/-- the bindings behind a body: of the protected parameters as they are then, the others as they were -/
def outs (prot : List Nat) : Nat → List B → List B → Option (List B)
  | i, b :: bs, r :: rs => if i ∈ prot then (outs prot (i + 1) bs rs).map (r :: ·) else match b with
    | .fr d => (outs prot (i + 1) bs rs).map (.fr d :: ·)
    | _ => none
  | _, [], _ => some []
  | _, _, _ => none
def fin (prot : List Nat) (bs : List B) : RS → RE
  | .rt b ρ' => (match outs prot 0 bs ρ' with
    | some os => .ok b os
    | none => .bad)
  | .nx ρ' => (match outs prot 0 bs ρ' with
    | some os => .ok (.fr .none) os
    | none => .bad)
  | .exc x ρ' => (match outs prot 0 bs ρ' with
    | some os => .exc x os
    | none => .bad)
  | _ => .bad
/-- the closure of a def with np parameters, ns names -/
def runDef (body : SS) (np ns : Nat) (prot : List Nat) : SE := fun bs => if bs.length = np then fin prot bs (body (bs ++ List.replicate (ns - np) .no)) else .bad
theorem outs_get {prot : List Nat} : ∀ {i : Nat} {bs rs os : List B}, outs prot i bs rs = some os → os.length = bs.length ∧ ∀ j b, bs[j]? = some b → (i + j ∈ prot ∧ ∃ r, rs[j]? = some r ∧ os[j]? = some r) ∨ (i + j ∉ prot ∧ ∃ d, b = .fr d ∧ os[j]? = some (.fr d))
  | i, [], rs, os, h => by
    have e : os = [] := by
      cases rs <;> exact (Option.some.inj h).symm
    subst e
    exact ⟨rfl, fun j b hb => by simp at hb⟩
  | i, b :: bs, [], os, h => by cases h
  | i, b :: bs, r :: rs, os, h => by
    unfold outs at h
    by_cases hi : i ∈ prot
    · rw [if_pos hi] at h
      cases e : outs prot (i + 1) bs rs with
      | none => rw [e] at h; cases h
      | some os' =>
        rw [e] at h
        cases h
        obtain ⟨h1, h2⟩ := outs_get e
        refine ⟨by simp [h1], fun j c hc => ?_⟩
        cases j with
        | zero => exact .inl ⟨hi, r, rfl, rfl⟩
        | succ j =>
          have := h2 j c (by simpa using hc)
          rw [show i + (j + 1) = i + 1 + j by omega]
          simpa using this
    · rw [if_neg hi] at h
      cases b with
      | fr d =>
        cases e : outs prot (i + 1) bs rs with
        | none => simp only [e] at h; cases h
        | some os' =>
          simp only [e] at h
          cases h
          obtain ⟨h1, h2⟩ := outs_get e
          refine ⟨by simp [h1], fun j c hc => ?_⟩
          cases j with
          | zero => exact .inr ⟨hi, d, by simpa using hc.symm, rfl⟩
          | succ j =>
            have := h2 j c (by simpa using hc)
            rw [show i + (j + 1) = i + 1 + j by omega]
            simpa using this
      | _ => cases h
section
variable {K : Fg} {Hz H Hz1 H1 : Hp} {F F1 : Nat → List Addr} {bs : List B} {vs : List V} {N : List Str} {σ' : L2.St} {ρ' : Env} {prot : List Nat}
theorem start_get {i : Nat} {v : V} (h : vs[i]? = some v) : (L2.start N vs)[i]? = some (some v) := by
  unfold L2.start
  have hi : i < vs.length := (List.getElem?_eq_some_iff.mp h).1
  rw [List.getElem?_append_left (by simpa using hi), List.getElem?_map, h]; rfl
theorem Zone.enter {ns : Nat} (z : Zone K Hz H (vs.map some) bs F) (hn : N.length = ns) (hl : vs.length ≤ ns) : Zone K Hz H (L2.start N vs) (bs ++ List.replicate (ns - bs.length) .no) F where
  sub := z.sub
  len := by
    have := z.len
    rw [List.length_map] at this
    unfold L2.start
    simp only [List.length_append, List.length_replicate, List.length_map]
    omega
  slot := fun i b h hb => by
    have hl2 := z.len
    rw [List.length_map] at hl2
    by_cases hi : i < bs.length
    · rw [List.getElem?_append_left hi] at h
      obtain ⟨v, h1, m⟩ := z.slot i b h hb
      refine ⟨v, start_get ?_, m⟩
      rw [List.getElem?_map] at h1
      cases e : vs[i]? with
      | none => rw [e] at h1; cases h1
      | some w => rw [e] at h1; cases h1; rfl
    · rw [List.getElem?_append_right (by omega), List.getElem?_replicate] at h
      split at h
      · cases h; exact absurd rfl hb
      · cases h
  out := z.out
  apart := z.apart
  dead := fun i h => by
    refine z.dead i ?_
    by_cases hi : i < bs.length
    · rw [List.getElem?_append_left hi] at h; exact h
    · exact .inl (by rw [List.getElem?_eq_none]; omega)
/-- the callee's zone at its end, seen from the caller -/
theorem Zone.leave {os : List B} (z0 : Zone K Hz H (vs.map some) bs F) (z : Zone K Hz1 H1 σ' ρ' F1) (s : Step Hz H F Hz1 H1 F1) (p : Prot prot (L2.start N vs) σ') (h : outs prot 0 bs ρ' = some os) :
    Zone K Hz1 H1 (vs.map some) os (fun i => if i ∈ prot ∧ i < bs.length then F1 i else []) := by
  obtain ⟨h1, h2⟩ := outs_get h
  have hl := z0.len
  rw [List.length_map] at hl
  refine ⟨z.sub, by rw [h1, List.length_map]; exact hl, fun i b hb hn => ?_, fun i a ha => ?_, fun i j a ha hb => ?_, fun i hd => ?_⟩
  · have hi : i < bs.length := by rw [← h1]; exact (List.getElem?_eq_some_iff.mp hb).1
    have hb0 : bs[i]? = some bs[i] := List.getElem?_eq_getElem hi
    have hv : vs[i]? = some vs[i] := List.getElem?_eq_getElem (by omega)
    have hm : (vs.map some)[i]? = some (some vs[i]) := by rw [List.getElem?_map, hv]; rfl
    rcases h2 i _ hb0 with ⟨hp, r, e1, e2⟩ | ⟨hp, d, e1, e2⟩
    · rw [Nat.zero_add] at hp
      rw [e2] at hb; cases hb
      obtain ⟨v, q1, q2⟩ := z.slot i _ e1 hn
      rw [p.2 i hp, start_get hv] at q1
      cases q1
      exact ⟨_, hm, by rw [if_pos ⟨hp, hi⟩]; exact q2⟩
    · rw [Nat.zero_add] at hp
      rw [e2] at hb; cases hb
      rw [e1] at hb0
      obtain ⟨v, q1, q2⟩ := z0.slot i _ hb0 (fun w => nomatch w)
      rw [hm] at q1; cases q1
      exact ⟨_, hm, by rw [if_neg (fun w => hp w.1)]; exact ⟨rfl, q2.2.mono s.z⟩⟩
  · split at ha
    · exact z.out i a ha
    · cases ha
  · split at ha
    · split at hb
      · exact z.apart i j a ha hb
      · cases hb
    · cases ha
  · split
    · rename_i hp
      have hb0 : bs[i]? = some bs[i] := List.getElem?_eq_getElem hp.2
      rcases h2 i _ hb0 with ⟨_, r, e1, e2⟩ | ⟨hq, _⟩
      · refine z.dead i ?_
        rcases hd with hd | hd
        · rw [e2] at hd; cases hd
        · rw [e2] at hd; cases hd; exact .inr e1
      · rw [Nat.zero_add] at hq; exact absurd hp.1 hq
    · rfl
theorem own_leave {a : Addr} (h : Own (fun i => if i ∈ prot ∧ i < bs.length then F1 i else []) a) : Own F1 a := by
  obtain ⟨i, hi⟩ := h
  dsimp only at hi
  split at hi
  · exact ⟨i, hi⟩
  · cases hi
theorem Step.leave (s : Step Hz H F Hz1 H1 F1) : Step Hz H F Hz1 H1 (fun i => if i ∈ prot ∧ i < bs.length then F1 i else []) :=
  ⟨s.z, s.fr, s.nz, fun a h => s.no a (own_leave h), s.dom⟩
end
/-- THE RULE: a def keeps the promise of its closure -/
theorem fn_ok {P : Program} {w : World} {T : Tx} {mg : Str → Option Value} {base : Heap} {CX : CXT} {k : Nat} {f : Addr} {fd : FuncData} {x qual : Str} {params : Arguments} {body : List Stmt} {scope : Scope} {dvs : List V} {kws : List (Str × V)} {N ps : List Str} {prot : List Nat} {sem : SS}
    (Fd : FunD T.K x qual params body scope dvs kws f fd) (S : FnScope N ps scope) (hle : ps.length ≤ N.length)
    (hbody : ∀ (cdv : Value) (A : Around) (outer : List PySem.Env) (s : Shared) (H : Hp) (E : XK), Room k (A.deeper (envOfC qual scope s.heap.objs.size f cdv)) →
      PSs (cxOf CX P w T.K mg base N qual scope f cdv A outer s H E) body (tS T (fun cls d _ H' => E cls d H') prot sem)) :
    FnOk P w T.K mg base CX (k + 1) f fd ps (spF T ps.length (runDef sem ps.length N.length prot)) := by
  refine FunD.ok Fd S (fun vs H Q E h => h.1) fun cdv A outer s H vs Q E hr h => ?_
  obtain ⟨hl, Hz, bs, F, z, h⟩ := h
  refine ⟨_, hbody cdv A outer s H E hr, ?_⟩
  have hl2 := z.len
  rw [List.length_map] at hl2
  unfold runDef at h
  rw [if_pos (by omega)] at h
  have z0 := z.enter (N := N) (ns := N.length) rfl (by omega)
  rw [show N.length - bs.length = N.length - ps.length by omega] at z0
  refine ⟨Hz, _, F, z0, ?_⟩
  generalize sem (bs ++ List.replicate (N.length - ps.length) .no) = r at h
  cases r with
  | bad => exact h
  | bk _ => exact h.elim
  | ct _ => exact h.elim
  | nx ρ' =>
    intro σ' Hz' H' F' z' st pr
    have h : Aft T _ Hz H F (vs.map some) (PB T.K F) (match outs prot 0 bs ρ' with
      | some os => .ok (.fr .none) os
      | none => .bad) Q := h
    cases e : outs prot 0 bs ρ' with
    | none => rw [e] at h; cases h
    | some os =>
      rw [e] at h
      exact h .non Hz' H' _ (z.leave z' st pr e) st.leave ⟨[], ⟨rfl, .non⟩, fun a ha => nomatch ha⟩
  | rt b ρ' =>
    intro v σ' Hz' H' F' z' st pr pb
    have h : Aft T _ Hz H F (vs.map some) (PB T.K F) (match outs prot 0 bs ρ' with
      | some os => .ok b os
      | none => .bad) Q := h
    cases e : outs prot 0 bs ρ' with
    | none => rw [e] at h; cases h
    | some os =>
      rw [e] at h
      obtain ⟨fp, m, q⟩ := pb
      exact h v Hz' H' _ (z.leave z' st pr e) st.leave ⟨fp, m, fun a ha => ⟨(q a ha).1, fun w => (q a ha).2.1 (own_leave w), (q a ha).2.2⟩⟩
  | exc x ρ' =>
    intro cls d σ' Hz' H' F' z' st pr xr
    have h : Aft T _ Hz H F (vs.map some) (PB T.K F) (match outs prot 0 bs ρ' with
      | some os => .exc x os
      | none => .bad) Q := h
    cases e : outs prot 0 bs ρ' with
    | none => rw [e] at h; cases h
    | some os =>
      rw [e] at h
      exact h cls d Hz' H' _ (z.leave z' st pr e) st.leave xr
/-! ### calls -/
/-- an argument: a datum; or a name's own object, handed to be changed -/
inductive AV where
  | val (d : D)
  | io (i : Nat)
abbrev SAv := Env → Rs (List AV)
def vNil : SAv := fun ρ => .ok [] ρ
def vVal (f : SE) (r : SAv) : SAv := fun ρ => (f ρ).frd fun d ρ1 => (r ρ1).bnd fun l ρ2 => .ok (.val d :: l) ρ2
def vIo (i : Nat) (r : SAv) : SAv := fun ρ => match ρ[i]? with
  | some (.fr d) => (r ρ).bnd fun l ρ2 => .ok (.val d :: l) ρ2
  | some (.ow _) => (r ρ).bnd fun l ρ2 => .ok (.io i :: l) ρ2
  | _ => .bad
inductive RepA (K : Fg) (Hz : Hp) (σ : L2.St) : List V → List AV → Prop
  | nil : RepA K Hz σ [] []
  | val {v : V} {vs : List V} {d : D} {l : List AV} : Rep K Hz v d → RepA K Hz σ vs l → RepA K Hz σ (v :: vs) (.val d :: l)
  | io {v : V} {vs : List V} {i : Nat} {l : List AV} : σ[i]? = some (some v) → RepA K Hz σ vs l → RepA K Hz σ (v :: vs) (.io i :: l)
theorem RepA.mono {K : Fg} {Hz Hz' : Hp} {σ : L2.St} (s : Same Hz Hz') : ∀ {vs : List V} {l : List AV}, RepA K Hz σ vs l → RepA K Hz' σ vs l
  | _, _, .nil => .nil
  | _, _, .val r t => .val (r.mono s) (t.mono s)
  | _, _, .io r t => .io r (t.mono s)
def PAv (K : Fg) (σ : L2.St) : List AV → List V → Hp → Hp → Hp → (Nat → List Addr) → Prop := fun l vs _ Hz' _ _ => RepA K Hz' σ vs l
def tAv (T : Tx) (W : WX) (f : SAv) : TA := fun σ H Q => ∃ Hz ρ F, Zone T.K Hz H σ ρ F ∧ Aft T W Hz H F σ (PAv T.K σ) (f ρ) Q
def ios : List AV → List Nat
  | [] => []
  | .val _ :: l => ios l
  | .io i :: l => i :: ios l
def mkArgs (ρ : Env) : List AV → Option (List B)
  | [] => some []
  | .val d :: l => (mkArgs ρ l).map (.fr d :: ·)
  | .io i :: l => match ρ[i]? with
    | some (.ow d) => (mkArgs ρ l).map (.ow d :: ·)
    | _ => none
def backs : List AV → List B → Env → Env
  | .io i :: l, b :: bs, ρ => backs l bs (ρ.set i b)
  | .val _ :: l, _ :: bs, ρ => backs l bs ρ
  | _, _, ρ => ρ
def nodupB : List Nat → Bool
  | [] => true
  | i :: l => !(l.contains i) && nodupB l
def sCall (ft : SE) (fa : SAv) : SE := fun ρ => (fa ρ).bnd fun l ρ1 => if nodupB (ios l) = true then (match mkArgs ρ1 l with
    | some bs => (match ft bs with
      | .ok b os => .ok b (backs l os ρ1)
      | .exc x os => .exc x (backs l os ρ1)
      | .bad => .bad)
    | none => .bad) else .bad
/-- where slot i is handed -/
def ioAt (i : Nat) : List AV → Option Nat
  | [] => none
  | .io j :: l => if j = i then some 0 else (ioAt i l).map (· + 1)
  | .val _ :: l => (ioAt i l).map (· + 1)
theorem ioAt_get {i : Nat} : ∀ {l : List AV} {j : Nat}, ioAt i l = some j → l[j]? = some (.io i)
  | [], _, h => by cases h
  | .io k :: l, j, h => by
    unfold ioAt at h
    by_cases e : k = i
    · rw [if_pos e] at h; cases h; subst e; rfl
    · rw [if_neg e] at h
      cases e2 : ioAt i l with
      | none => rw [e2] at h; cases h
      | some m => rw [e2] at h; cases h; simpa using ioAt_get e2
  | .val d :: l, j, h => by
    unfold ioAt at h
    cases e2 : ioAt i l with
    | none => rw [e2] at h; cases h
    | some m => rw [e2] at h; cases h; simpa using ioAt_get e2
theorem ioAt_none {i : Nat} : ∀ {l : List AV}, ioAt i l = none → i ∉ ios l
  | [], _ => by simp [ios]
  | .io k :: l, h => by
    unfold ioAt at h
    by_cases e : k = i
    · rw [if_pos e] at h; cases h
    · rw [if_neg e] at h
      cases e2 : ioAt i l with
      | some m => rw [e2] at h; cases h
      | none => simp only [ios, List.mem_cons, not_or]; exact ⟨Ne.symm e, ioAt_none e2⟩
  | .val d :: l, h => by
    unfold ioAt at h
    cases e2 : ioAt i l with
    | some m => rw [e2] at h; cases h
    | none => exact (ioAt_none e2 : i ∉ ios l)
theorem ios_mem {i : Nat} : ∀ {l : List AV} {j : Nat}, l[j]? = some (.io i) → i ∈ ios l
  | [], j, h => by simp at h
  | .io k :: l, 0, h => by
    have e : k = i := by simpa using h
    subst e; exact List.mem_cons_self
  | .io k :: l, j + 1, h => List.mem_cons_of_mem _ (ios_mem (l := l) (j := j) (by simpa using h))
  | .val d :: l, 0, h => by simp at h
  | .val d :: l, j + 1, h => ios_mem (l := l) (j := j) (by simpa using h)
theorem ioAt_of {i : Nat} : ∀ {l : List AV}, nodupB (ios l) = true → ∀ {j : Nat}, l[j]? = some (.io i) → ioAt i l = some j
  | [], _, j, h => by simp at h
  | .io k :: l, hn, j, h => by
    simp only [ios, nodupB, Bool.and_eq_true, Bool.not_eq_true'] at hn
    cases j with
    | zero =>
      have e : k = i := by simpa using h
      unfold ioAt; rw [if_pos e]
    | succ j =>
      have h' : l[j]? = some (.io i) := by simpa using h
      have ih := ioAt_of hn.2 h'
      unfold ioAt
      by_cases e : k = i
      · subst e
        have hc := hn.1
        rw [List.contains_iff_mem.mpr (ios_mem h')] at hc
        cases hc
      · rw [if_neg e, ih]; rfl
  | .val d :: l, hn, j, h => by
    cases j with
    | zero => simp at h
    | succ j =>
      have ih := ioAt_of (l := l) hn (j := j) (by simpa using h)
      unfold ioAt; rw [ih]; rfl
end FK
set_option Elab.async false
set_option linter.all false
set_option maxRecDepth 100000
/-! FK 7: calls, soundness. -/
namespace FK
open PySem PySem.Spec PyProof.Rows L2
theorem mkArgs_get {ρ : Env} : ∀ {l : List AV} {bs : List B}, mkArgs ρ l = some bs → bs.length = l.length ∧ ∀ (j : Nat) (a : AV), l[j]? = some a → (∃ d, a = AV.val d ∧ bs[j]? = some (B.fr d)) ∨ ∃ i d, a = AV.io i ∧ ρ[i]? = some (B.ow d) ∧ bs[j]? = some (B.ow d)
  | [], bs, h => by cases h; exact ⟨rfl, fun j a e => by simp at e⟩
  | .val d :: l, bs, h => by
    unfold mkArgs at h
    cases e : mkArgs ρ l with
    | none => rw [e] at h; cases h
    | some cs =>
      rw [e] at h; cases h
      obtain ⟨h1, h2⟩ := mkArgs_get e
      refine ⟨by simp [h1], fun j a ha => ?_⟩
      cases j with
      | zero => exact .inl ⟨d, by simpa using ha.symm, rfl⟩
      | succ j => simpa using h2 j a (by simpa using ha)
  | .io i :: l, bs, h => by
    unfold mkArgs at h
    cases q : ρ[i]? with
    | none => rw [q] at h; cases h
    | some b =>
      rw [q] at h
      cases b with
      | ow d =>
        cases e : mkArgs ρ l with
        | none => simp only [e] at h; cases h
        | some cs =>
          simp only [e] at h; cases h
          obtain ⟨h1, h2⟩ := mkArgs_get e
          refine ⟨by simp [h1], fun j a ha => ?_⟩
          cases j with
          | zero => exact .inr ⟨i, d, by simpa using ha.symm, q, rfl⟩
          | succ j => simpa using h2 j a (by simpa using ha)
      | _ => cases h
theorem backs_length : ∀ (l : List AV) (os : List B) (ρ : Env), (backs l os ρ).length = ρ.length
  | [], _, _ => by unfold backs; rfl
  | .io i :: l, [], _ => by unfold backs; rfl
  | .val d :: l, [], _ => by unfold backs; rfl
  | .io i :: l, b :: os, ρ => by unfold backs; rw [backs_length l os, List.length_set]
  | .val d :: l, b :: os, ρ => by unfold backs; exact backs_length l os ρ
theorem backs_out {i : Nat} : ∀ {l : List AV} {os : List B} {ρ : Env}, i ∉ ios l → (backs l os ρ)[i]? = ρ[i]?
  | [], _, _, _ => by unfold backs; rfl
  | .io j :: l, [], _, _ => by unfold backs; rfl
  | .val d :: l, [], _, _ => by unfold backs; rfl
  | .io j :: l, b :: os, ρ, h => by
    simp only [ios, List.mem_cons, not_or] at h
    unfold backs
    rw [backs_out h.2, List.getElem?_set_ne (Ne.symm h.1)]
  | .val d :: l, b :: os, ρ, h => by unfold backs; exact backs_out (l := l) h
theorem backs_at {i : Nat} : ∀ {l : List AV} {os : List B} {ρ : Env} {j : Nat}, nodupB (ios l) = true → os.length = l.length → i < ρ.length → l[j]? = some (.io i) → (backs l os ρ)[i]? = os[j]?
  | [], _, _, j, _, _, _, h => by simp at h
  | .io k :: l, [], _, j, _, hl, _, _ => by simp at hl
  | .val d :: l, [], _, j, _, hl, _, _ => by simp at hl
  | .io k :: l, b :: os, ρ, j, hn, hl, hi, h => by
    simp only [ios, nodupB, Bool.and_eq_true, Bool.not_eq_true'] at hn
    unfold backs
    cases j with
    | zero =>
      have e : k = i := by simpa using h
      subst e
      have : k ∉ ios l := fun hm => by
        have hc := hn.1
        rw [List.contains_iff_mem.mpr hm] at hc
        cases hc
      rw [backs_out this, List.getElem?_set_self hi]; rfl
    | succ j => exact backs_at hn.2 (by simpa using hl) (by rw [List.length_set]; exact hi) (by simpa using h)
  | .val d :: l, b :: os, ρ, j, hn, hl, hi, h => by
    unfold backs
    cases j with
    | zero => simp at h
    | succ j => exact backs_at (l := l) hn (by simpa using hl) hi (by simpa using h)
theorem RepA.length {K : Fg} {Hz : Hp} {σ : L2.St} : ∀ {vs : List V} {l : List AV}, RepA K Hz σ vs l → vs.length = l.length
  | _, _, .nil => rfl
  | _, _, .val _ t => congrArg (· + 1) t.length
  | _, _, .io _ t => congrArg (· + 1) t.length
theorem RepA.get {K : Fg} {Hz : Hp} {σ : L2.St} : ∀ {vs : List V} {l : List AV} {j : Nat} {a : AV}, RepA K Hz σ vs l → l[j]? = some a → ∃ v, vs[j]? = some v ∧ ((∃ d, a = .val d ∧ Rep K Hz v d) ∨ ∃ i, a = .io i ∧ σ[i]? = some (some v))
  | _, _, j, a, .nil, h => by simp at h
  | _, _, 0, a, .val r t, h => by simp at h; subst h; exact ⟨_, rfl, .inl ⟨_, rfl, r⟩⟩
  | _, _, 0, a, .io r t, h => by simp at h; subst h; exact ⟨_, rfl, .inr ⟨_, rfl, r⟩⟩
  | _, _, j + 1, a, .val r t, h => by simpa using RepA.get t (j := j) (a := a) (by simpa using h)
  | _, _, j + 1, a, .io r t, h => by simpa using RepA.get t (j := j) (a := a) (by simpa using h)
/-- what the callee owns of the caller's -/
def calF (l : List AV) (F : Nat → List Addr) : Nat → List Addr := fun j => match l[j]? with
  | some (.io i) => F i
  | _ => []
theorem calF_own {l : List AV} {F : Nat → List Addr} {a : Addr} (h : Own (calF l F) a) : ∃ (i j : Nat), l[j]? = some (AV.io i) ∧ a ∈ F i := by
  obtain ⟨j, hj⟩ := h
  unfold calF at hj
  split at hj
  · rename_i i e; exact ⟨i, j, e, hj⟩
  · cases hj
def retF (l : List AV) (F F' : Nat → List Addr) : Nat → List Addr := fun i => match ioAt i l with
  | some j => F' j
  | none => F i
section
variable {K : Fg} {Hz H Hz1 H1 : Hp} {F F1 : Nat → List Addr} {σ : L2.St} {ρ : Env} {l : List AV} {bs os : List B} {vs : List V}
theorem Zone.call (z : Zone K Hz H σ ρ F) (r : RepA K Hz σ vs l) (hn : nodupB (ios l) = true) (hb : mkArgs ρ l = some bs) : Zone K Hz H (vs.map some) bs (calF l F) := by
  obtain ⟨h1, h2⟩ := mkArgs_get hb
  have hl := r.length
  refine ⟨z.sub, by rw [List.length_map, h1, hl], fun j b hj hno => ?_, fun j a ha => ?_, fun j k a ha hb => ?_, fun j hd => ?_⟩
  · have hj2 : j < l.length := by rw [← h1]; exact (List.getElem?_eq_some_iff.mp hj).1
    have ea : l[j]? = some l[j] := List.getElem?_eq_getElem hj2
    obtain ⟨v, hv, q⟩ := r.get ea
    have hm : (vs.map some)[j]? = some (some v) := by rw [List.getElem?_map, hv]; rfl
    rcases h2 j _ ea with ⟨d, e1, e2⟩ | ⟨i, d, e1, e2, e3⟩
    · rw [e2] at hj; cases hj
      rcases q with ⟨d', e4, q⟩ | ⟨i, e4, _⟩
      · rw [e1] at e4; cases e4
        refine ⟨v, hm, ?_, q⟩
        unfold calF; rw [ea, e1]
      · rw [e1] at e4; cases e4
    · rw [e3] at hj; cases hj
      rcases q with ⟨d', e4, q⟩ | ⟨i', e4, q⟩
      · rw [e1] at e4; cases e4
      · rw [e1] at e4; cases e4
        obtain ⟨v', q1, q2⟩ := z.slot i _ e2 (fun w => nomatch w)
        rw [q] at q1; cases q1
        refine ⟨v, hm, ?_⟩
        have : calF l F j = F i := by unfold calF; rw [ea, e1]
        rw [this]; exact q2
  · obtain ⟨i, j', _, h⟩ := calF_own ⟨j, ha⟩
    exact z.out i a h
  · unfold calF at ha hb
    split at ha
    · rename_i i ei
      split at hb
      · rename_i i' ei'
        have e := z.apart i i' a ha hb
        subst e
        have e1 := ioAt_of hn ei
        have e2 := ioAt_of hn ei'
        rw [e1] at e2; cases e2; rfl
      · cases hb
    · cases ha
  · unfold calF
    split
    · rename_i i ei
      rcases h2 j _ ei with ⟨d, e1, e2⟩ | ⟨i, d, e1, e2, e3⟩
      · cases e1
      · rcases hd with hd | hd
        · rw [e3] at hd; cases hd
        · rw [e3] at hd; cases hd
    · rfl
theorem retF_own {a : Addr} {F' : Nat → List Addr} (h : Own (retF l F F') a) : Own F' a ∨ ∃ i, ioAt i l = none ∧ a ∈ F i := by
  obtain ⟨i, hi⟩ := h
  unfold retF at hi
  split at hi
  · rename_i j e; exact .inl ⟨j, hi⟩
  · rename_i e; exact .inr ⟨i, e, hi⟩
/-- an owned address of a name that isn't handed is none of the callee's -/
theorem not_cal (z : Zone K Hz H σ ρ F) {i : Nat} {a : Addr} (e : ioAt i l = none) (ha : a ∈ F i) : ¬ Own (calF l F) a := fun w => by
  obtain ⟨i', j, ej, h⟩ := calF_own w
  have := z.apart i i' a ha h
  subst this
  exact ioAt_none e (ios_mem ej)
theorem Zone.back (z : Zone K Hz H σ ρ F) (r : RepA K Hz σ vs l) (hn : nodupB (ios l) = true) (hb : mkArgs ρ l = some bs) (z1 : Zone K Hz1 H1 (vs.map some) os F1) (s : Step Hz H (calF l F) Hz1 H1 F1) : Zone K Hz1 H1 σ (backs l os ρ) (retF l F F1) := by
  obtain ⟨h1, h2⟩ := mkArgs_get hb
  have hl := r.length
  have hos : os.length = l.length := by have := z1.len; rw [List.length_map] at this; omega
  have keepAt : ∀ i a, ioAt i l = none → a ∈ F i → H1 a = H a ∧ Hz1 a = none := fun i a e ha => by
    have nc := not_cal z e ha
    have hne := z.there ⟨i, ha⟩
    obtain ⟨o, ho⟩ := ex_of_ne hne
    refine ⟨by rw [s.fr a o ho nc, ho], ?_⟩
    cases q : Hz1 a with
    | none => rfl
    | some o' =>
      rcases s.nz a (by rw [q]; exact fun w => nomatch w) with w | w | w
      · exact absurd (z.out i a ha) w
      · exact absurd w hne
      · exact absurd w nc
  have slotIo : ∀ i j, ioAt i l = some j → ∃ d, ρ[i]? = some (.ow d) ∧ ∃ v, σ[i]? = some (some v) ∧ (vs.map some)[j]? = some (some v) := fun i j e => by
    have ej := ioAt_get e
    rcases h2 j _ ej with ⟨d, e1, _⟩ | ⟨i', d, e1, e2, _⟩
    · cases e1
    · cases e1
      obtain ⟨v, hv, q⟩ := r.get ej
      rcases q with ⟨d', e4, _⟩ | ⟨i', e4, q⟩
      · cases e4
      · cases e4
        exact ⟨d, e2, v, q, by rw [List.getElem?_map, hv]; rfl⟩
  have backAt : ∀ i j, ioAt i l = some j → (backs l os ρ)[i]? = os[j]? := fun i j e => by
    obtain ⟨d, e1, _⟩ := slotIo i j e
    exact backs_at hn hos (List.getElem?_eq_some_iff.mp e1).1 (ioAt_get e)
  refine ⟨z1.sub, by rw [backs_length]; exact z.len, fun i b hi hno => ?_, fun i a ha => ?_, fun i k a ha hk => ?_, fun i hd => ?_⟩
  · unfold retF
    cases e : ioAt i l with
    | some j =>
      rw [backAt i j e] at hi
      obtain ⟨v, q1, q2⟩ := z1.slot j b hi hno
      obtain ⟨d, _, v', e2, e3⟩ := slotIo i j e
      rw [e3] at q1; cases q1
      exact ⟨v, e2, q2⟩
    | none =>
      rw [backs_out (ioAt_none e)] at hi
      obtain ⟨v, q1, q2⟩ := z.slot i b hi hno
      exact ⟨v, q1, q2.keep s.z fun a ha => (keepAt i a e ha).1⟩
  · unfold retF at ha
    cases e : ioAt i l with
    | some j => rw [e] at ha; exact z1.out j a ha
    | none => rw [e] at ha; exact (keepAt i a e ha).2
  · have cross : ∀ i j, ioAt i l = none → a ∈ F i → a ∈ F1 j → False := fun i j e h1 h2 => by
      rcases s.no a ⟨j, h2⟩ with w | w
      · exact z.there ⟨i, h1⟩ w
      · exact not_cal z e h1 w
    unfold retF at ha hk
    cases e : ioAt i l with
    | some j =>
      rw [e] at ha
      cases e2 : ioAt k l with
      | some j2 =>
        rw [e2] at hk
        have := z1.apart j j2 a ha hk
        subst this
        have q1 := ioAt_get e
        have q2 := ioAt_get e2
        rw [q1] at q2; cases q2; rfl
      | none => rw [e2] at hk; exact (cross k j e2 hk ha).elim
    | none =>
      rw [e] at ha
      cases e2 : ioAt k l with
      | some j2 => rw [e2] at hk; exact (cross i j2 e ha hk).elim
      | none => rw [e2] at hk; exact z.apart i k a ha hk
  · unfold retF
    cases e : ioAt i l with
    | some j => rw [backAt i j e] at hd; exact z1.dead j hd
    | none => rw [backs_out (ioAt_none e)] at hd; exact z.dead i hd
theorem Step.back (z : Zone K Hz H σ ρ F) (s : Step Hz H (calF l F) Hz1 H1 F1) : Step Hz H F Hz1 H1 (retF l F F1) where
  z := s.z
  fr := fun a o h n => s.fr a o h fun w => by
    obtain ⟨i, j, _, h⟩ := calF_own w
    exact n ⟨i, h⟩
  nz := fun a h => (s.nz a h).imp id fun w => w.imp id fun w => by
    obtain ⟨i, j, _, h⟩ := calF_own w
    exact ⟨i, h⟩
  no := fun a h => by
    rcases retF_own h with w | ⟨i, _, w⟩
    · exact (s.no a w).imp id fun w => by
        obtain ⟨i, j, _, h⟩ := calF_own w
        exact ⟨i, h⟩
    · exact .inr ⟨i, w⟩
  dom := s.dom
theorem PB.back (z : Zone K Hz H σ ρ F) {b : B} {v : V} (p : PB K (calF l F) b v H Hz1 H1 F1) : PB K F b v H Hz1 H1 (retF l F F1) := by
  obtain ⟨fp, m, q⟩ := p
  refine ⟨fp, m, fun a ha => ⟨(q a ha).1, fun w => ?_, (q a ha).2.2.imp id fun w => ?_⟩⟩
  · rcases retF_own w with w | ⟨i, e, w⟩
    · exact (q a ha).2.1 w
    · rcases (q a ha).2.2 with h | h
      · exact z.there ⟨i, w⟩ h
      · exact not_cal z e w h
  · obtain ⟨i, j, _, h⟩ := calF_own w
    exact ⟨i, h⟩
end
section
variable {X : Cx} {T : Tx} {W : WX} {e : Expr} {es : List Expr} {f : SE} {fv : SAv} {pos p : Pos}
theorem v_nil : PA X [] (tAv T W vNil) := PA.mono pa_nil fun σ H Q ⟨Hz, ρ, F, z, h⟩ => h [] Hz H F z .refl .nil
theorem v_val (ha : PE X e (tE T W f)) (hr : PA X es (tAv T W fv)) (hs : starEach (e :: es) X.env = (false, eval e X.env) :: starEach es X.env) : PA X (e :: es) (tAv T W (vVal f fv)) := by
  refine PA.mono (pa_cons ha hr hs) fun σ H Q ⟨Hz, ρ, F, z, h⟩ => ?_
  refine ⟨Hz, ρ, F, z, Aft.imp (Aft.frd h) fun v H1 ⟨Hz1, F1, d, ρ1, z1, s1, r1, q1⟩ => ?_⟩
  have q1' : Aft T W Hz1 H1 F1 σ (PAv T.K σ) _ Q := q1.from s1 fun _ _ _ _ _ p => p
  refine ⟨Hz1, ρ1, F1, z1, Aft.imp (Aft.bnd (P := PAv T.K σ) q1') fun vs H2 ⟨Hz2, F2, l, ρ2, z2, s2, r2, q2⟩ => ?_⟩
  have q2' : Aft T W Hz2 H2 F2 σ (PAv T.K σ) _ Q := q2.from s2 fun _ _ _ _ _ p => p
  exact q2' (v :: vs) Hz2 H2 F2 z2 .refl (.val (r1.mono s2.z) r2)
theorem v_io {i : Nat} {x : Str} (hN : X.N[i]? = some x) (hv : Vis X.env.scope x) (hd : (x == ("__debug__" : Str)) = false) (hcd : (x == ("__classdict__" : Str)) = false) (hr : PA X es (tAv T W fv))
    (hs : starEach (.Name x pos :: es) X.env = (false, eval (.Name x pos) X.env) :: starEach es X.env) : PA X (.Name x pos :: es) (tAv T W (vIo i fv)) := by
  refine PA.mono (pa_cons (pe_var hN hv hd hcd) hr hs) fun σ H Q ⟨Hz, ρ, F, z, h⟩ => ?_
  unfold vIo at h
  cases q : ρ[i]? with
  | none => rw [q] at h; cases h
  | some b =>
    rw [q] at h
    cases b with
    | fr d =>
      obtain ⟨v, h1, m⟩ := z.slot i _ q (fun w => nomatch w)
      refine ⟨v, h1, Hz, ρ, F, z, Aft.imp (Aft.bnd (P := PAv T.K σ) h) fun vs H2 ⟨Hz2, F2, l, ρ2, z2, s2, r2, q2⟩ => ?_⟩
      have q2' : Aft T W Hz2 H2 F2 σ (PAv T.K σ) _ Q := q2.from s2 fun _ _ _ _ _ p => p
      exact q2' (v :: vs) Hz2 H2 F2 z2 .refl (.val (m.2.mono s2.z) r2)
    | ow d =>
      obtain ⟨v, h1, m⟩ := z.slot i _ q (fun w => nomatch w)
      refine ⟨v, h1, Hz, ρ, F, z, Aft.imp (Aft.bnd (P := PAv T.K σ) h) fun vs H2 ⟨Hz2, F2, l, ρ2, z2, s2, r2, q2⟩ => ?_⟩
      have q2' : Aft T W Hz2 H2 F2 σ (PAv T.K σ) _ Q := q2.from s2 fun _ _ _ _ _ p => p
      exact q2' (v :: vs) Hz2 H2 F2 z2 .refl (.io h1 r2)
    | _ => cases h
theorem e_call {k n : Nat} {fa : Addr} {fd : FuncData} {ps : List Str} {x : Str} {ft : SE} (hK : X.K = T.K) (F : FnOk X.prog X.w X.K X.mg X.base (L2.CX X.prog X.w) k fa fd ps (spF T n ft)) (hr : Room k X.A) (hg : Gl X x) (hm : X.mg x = some (.ref fa)) (hk : PySem.W.keepIn X.K (.ref fa) = true)
    (hb : Binds X.K fd ps []) (tk : Takes X W) (ha : PA X (e :: es) (tAv T W fv)) (hft : ∀ bs, ft bs ≠ .bad → bs.length = n) (hdb : (x == ("__debug__" : Str)) = false) (he : starEach (e :: es) X.env = (false, eval e X.env) :: starEach es X.env) (hpl : (backTo pos (starEach es X.env)).any (·.1) = false) :
    PE X (.Call (.Name x p) (e :: es) [] pos) (tE T W (sCall ft fv)) := by
  refine PE.mono (pe_callS (E := WE W) F hr hg hm hk hb (fun σ => passAt tk σ) ha hdb he hpl) fun σ H Q ⟨Hz, ρ, F0, z, h⟩ => ?_
  refine ⟨Hz, ρ, F0, z, Aft.imp (Aft.bnd (P := PAv T.K σ) h) fun vs H1 ⟨Hz1, F1, l, ρ1, z1, s1, r1, q1⟩ => ?_⟩
  have q2 := q1.fromB s1
  by_cases hnd : nodupB (ios l) = true
  · rw [if_pos hnd] at q2
    cases hb2 : mkArgs ρ1 l with
    | none => rw [hb2] at q2; cases q2
    | some bs =>
      rw [hb2] at q2
      have zc := z1.call r1 hnd hb2
      have hlen : vs.length = n := by
        have e1 := zc.len
        rw [List.length_map] at e1
        have e2 := (mkArgs_get hb2).1
        have e3 := r1.length
        have e4 := hft bs fun w => by simp only [w] at q2; cases q2
        omega
      refine ⟨hlen, Hz1, bs, _, zc, ?_⟩
      cases hf : ft bs with
      | bad => simp only [hf] at q2; cases q2
      | ok b os =>
        simp only [hf] at q2
        exact fun v Hz' H' F' z' st pb => q2 v Hz' H' _ (z1.back r1 hnd hb2 z' st) (st.back z1) (PB.back z1 pb)
      | exc x os =>
        simp only [hf] at q2
        exact fun cls d Hz' H' F' z' st xr => q2 cls d Hz' H' _ (z1.back r1 hnd hb2 z' st) (st.back z1) xr
  · rw [if_neg hnd] at q2; cases q2
end
end FK
set_option Elab.async false
set_option linter.all false
set_option maxRecDepth 100000
/-! FK 8: lists changed, lent names, list comprehensions. -/
namespace FK
open PySem PySem.Spec PyProof.Rows L2
/-! ### an owned object is changed -/
section
variable {K : Fg} {Hz H : Hp} {F : Nat → List Addr} {σ : L2.St} {ρ : Env}
theorem set_ge {α : Type} {l : List α} {i j : Nat} {x : α} (h : j ≠ i) : (l.set i x)[j]? = l[j]? := List.getElem?_set_ne (Ne.symm h)
theorem Zone.write {i : Nat} {a : Addr} {d d' : D} {o : HO} (z : Zone K Hz H σ ρ F) (hi : ρ[i]? = some (.ow d)) (hv : σ[i]? = some (some (.ref a))) (hf : F i = [a]) (m : OwRep K Hz (upd H a o) a d') : Zone K Hz (upd H a o) σ (ρ.set i (.ow d')) F where
  sub := fun b x e => by
    have hb : b ≠ a := fun w => by
      subst w
      rw [z.out i b (by rw [hf]; simp)] at e; cases e
    rw [upd_ne hb]; exact z.sub b x e
  len := by rw [List.length_set]; exact z.len
  slot := fun j b hj hn => by
    by_cases e : j = i
    · subst e
      rw [List.getElem?_set_self (List.getElem?_eq_some_iff.mp hi).1] at hj
      cases hj
      exact ⟨.ref a, hv, a, rfl, hf, m⟩
    · rw [set_ge e] at hj
      obtain ⟨v, h1, h2⟩ := z.slot j b hj hn
      refine ⟨v, h1, h2.keep (.refl _) fun c hc => upd_ne fun w => ?_⟩
      subst w
      exact e (z.apart j i c hc (by rw [hf]; simp))
  out := z.out
  apart := z.apart
  dead := fun j h => by
    by_cases e : j = i
    · subst e
      rcases h with h | h
      · rw [List.getElem?_set_self (List.getElem?_eq_some_iff.mp hi).1] at h; cases h
      · rw [List.getElem?_set_self (List.getElem?_eq_some_iff.mp hi).1] at h; cases h
    · rw [set_ge e] at h; exact z.dead j h
theorem Step.write {a : Addr} {o : HO} (h : Own F a) : Step Hz H F Hz (upd H a o) F where
  z := .refl _
  fr := fun b x e n => by rw [upd_ne fun w => by subst w; exact n h]; exact e
  nz := fun _ h => .inl h
  no := fun _ h => .inr h
  dom := fun b e => by
    by_cases hb : b = a
    · subst hb; rw [upd_same]; exact fun w => nomatch w
    · rw [upd_ne hb]; exact e
theorem Zone.owned {i : Nat} {d : D} (z : Zone K Hz H σ ρ F) (hi : ρ[i]? = some (.ow d)) : ∃ a, σ[i]? = some (some (.ref a)) ∧ F i = [a] ∧ OwRep K Hz H a d := by
  obtain ⟨v, h1, m⟩ := z.slot i _ hi (fun w => nomatch w)
  obtain ⟨a, rfl, e, o⟩ := m
  exact ⟨a, h1, e, o⟩
end
def Rs.frS (r : RE) (k : D → Env → RS) : RS := r.bS fun b ρ => match frz b with
  | some d => k d ρ
  | none => .bad
def owL (ρ : Env) (i : Nat) : Option (List D) := match ρ[i]? with
  | some (.ow (.list ds)) => some ds
  | _ => none
theorem owL_some {ρ : Env} {i : Nat} {ds : List D} (h : owL ρ i = some ds) : ρ[i]? = some (.ow (.list ds)) := by
  unfold owL at h
  split at h
  · rename_i e q; rw [q]; cases h; rfl
  · cases h
/-- x.append(e) -/
def sAppend (i : Nat) (f : SE) : SS := fun ρ => if (owL ρ i).isSome = true then (f ρ).frS fun d ρ1 => match owL ρ1 i with
  | some ds => if ds.length < sizeLine then .nx (ρ1.set i (.ow (.list (ds ++ [d])))) else .bad
  | none => .bad else .bad
/-- x[e] = v for an owned list -/
def setAt (ds : List D) (k d : D) : Option (List D) := match k with
  | .int k => (ixN ds.length k).map fun j => ds.set j d
  | _ => none
def sSetL (i : Nat) (fi fv : SE) : SS := fun ρ => (fv ρ).frS fun d ρ1 => if (owL ρ1 i).isSome = true then (fi ρ1).frS fun k ρ2 => match (owL ρ2 i).bind fun ds => setAt ds k d with
  | some ds' => .nx (ρ2.set i (.ow (.list ds')))
  | none => .bad else .bad
section
variable {T : Tx} {W : WX} {P : List Nat} {Hz H Hz1 H1 : Hp} {F F1 : Nat → List Addr} {σ : L2.St} {ρ : Env} {D : Ends}
theorem AftS.frS {r : RE} {k : FK.D → Env → RS} (h : AftS T W P Hz H F σ (r.frS k) D) : Aft T W Hz H F σ (PB T.K F) r fun v H1 => ∃ Hz1 F1 d ρ1, Zone T.K Hz1 H1 σ ρ1 F1 ∧ Step Hz H F Hz1 H1 F1 ∧ Rep T.K Hz1 v d ∧ AftS T W P Hz1 H1 F1 σ (k d ρ1) D := by
  refine Aft.imp (AftS.bS (PP := PB T.K F) h) fun v H1 ⟨Hz1, F1, b, ρ1, z1, s1, r1, q1⟩ => ?_
  cases e : frz b with
  | none => rw [e] at q1; cases q1
  | some d =>
    rw [e] at q1
    obtain ⟨Hz2, z2, s2, r2⟩ := freeze e z1 s1 r1
    exact ⟨Hz2, F1, d, ρ1, z2, s2, r2, AftS.from q1 s2 (.refl _ _)⟩
end
section
variable {X : Cx} {T : Tx} {W : WX} {P : List Nat} {e ix : Expr} {f fi : SE} {pos pos' p1 p2 : Pos}
theorem s_append {i : Nat} {x : Str} {apos cpos : Pos} (hK : X.K = T.K) (hN : X.N[i]? = some x) (hv : Vis X.env.scope x) (hd : (x == ("__debug__" : Str)) = false) (hcd : (x == ("__classdict__" : Str)) = false) (he : PE X e (tE T W f))
    (hfew : ((backTo cpos (starEach [e] X.env)).all (fun x => !x.1) && (backToKw cpos (keywordEach [] X.env)).all (fun x => x.1.isSome) && decide ([e].length + ([] : List Keyword).length + (if ([] : List Keyword).isEmpty then 0 else 1) < 30)) = true)
    (hline : (apos.endLine == cpos.line) = true) (hs : starEach [e] X.env = (false, eval e X.env) :: starEach [] X.env) (hbase : attributeBase (.Name x p1) "append" X.env (eval (.Name x p1) X.env) = eval (.Name x p1) X.env)
    (hsw : swapsWith (.Call (.Attribute (.Name x p1) "append" apos) [e] [] cpos) none pos.line X.env = pure false) :
    PS X (.Expr (.Call (.Attribute (.Name x p1) "append" apos) [e] [] cpos) pos) (tS T W P (sAppend i f)) := by
  refine PS.mono (ps_expr (pe_bm PySem.F.plainAttrs_list PySem.F.slot_list_append PySem.F.type_list_append mt_append (pe_var hN hv hd hcd) (pa_cons he pa_nil hs) hbase hfew hline hs (by rfl)) hsw) fun D σ H ⟨Hz, ρ, F, z, h⟩ => ?_
  unfold sAppend at h
  by_cases ho : (owL ρ i).isSome = true
  · rw [if_pos ho] at h
    obtain ⟨ds, hds⟩ := Option.isSome_iff_exists.mp ho
    obtain ⟨a, ha, hf, vs0, o1, o2⟩ := z.owned (owL_some hds)
    refine ⟨.ref a, ha, .inl ⟨rfl, _, SqL.of o1⟩, Hz, ρ, F, z, Aft.imp (AftS.frS h) fun v H1 ⟨Hz1, F1, d, ρ1, z1, s1, r1, q1⟩ => ?_⟩
    cases ho1 : owL ρ1 i with
    | none => rw [ho1] at q1; cases q1
    | some ds1 =>
      rw [ho1] at q1
      obtain ⟨a1, ha1, hf1, vs1, o3, o4⟩ := z1.owned (owL_some ho1)
      rw [ha] at ha1; cases ha1
      by_cases hl : ds1.length < sizeLine
      · simp only [hl, if_true] at q1
        refine ⟨a, vs1, v, rfl, rfl, o3, by rw [o4.length]; exact hl, ?_⟩
        exact q1 σ Hz1 _ F1 (z1.write (owL_some ho1) ha hf1 ⟨_, upd_same, o4.append (.cons r1 .nil)⟩) (.write ⟨i, by rw [hf1]; simp⟩) (.refl _ _)
      · simp only [hl, if_false] at q1; exact q1.elim
  · rw [if_neg ho] at h; cases h
theorem s_setL {i : Nat} {x : Str} (hN : X.N[i]? = some x) (hv : Vis X.env.scope x) (hd : (x == ("__debug__" : Str)) = false) (hcd : (x == ("__classdict__" : Str)) = false) (he : PE X e (tE T W f)) (hi : PE X ix (tE T W fi))
    (hs : swapsWithSole [.Subscript (.Name x p1) ix p2] e pos.line X.env = pure false) (hw : swappedStores [.Subscript (.Name x p1) ix p2] e X.env = pure none)
    (ha : ∀ v, assign (.Subscript (.Name x p1) ix p2) X.env v = (do
      let ov ← holding [v] (eval (.Name x p1) X.env)
      let iv ← holding [v, ov] (eval ix X.env)
      standAt p2
      holding [v, ov, iv] (setItem ov iv v)
      release [v, ov, iv] [])) (h1 : (assignEach [.Subscript (.Name x p1) ix p2] X.env).map (·.2) = [assign (.Subscript (.Name x p1) ix p2) X.env]) :
    PS X (.Assign [.Subscript (.Name x p1) ix p2] e pos) (tS T W P (sSetL i fi f)) := by
  refine PS.mono (ps_asg he (pg_sub (pe_var hN hv hd hcd) hi set_list ha) hs hw h1) fun D σ H ⟨Hz, ρ, F, z, h⟩ => ⟨Hz, ρ, F, z, Aft.imp (AftS.frS h) fun v H1 ⟨Hz1, F1, d, ρ1, z1, s1, r1, q1⟩ => ?_⟩
  by_cases ho : (owL ρ1 i).isSome = true
  · rw [if_pos ho] at q1
    obtain ⟨ds, hds⟩ := Option.isSome_iff_exists.mp ho
    obtain ⟨a, ha', hf, vs0, o1, o2⟩ := z1.owned (owL_some hds)
    refine ⟨.ref a, ha', Hz1, ρ1, F1, z1, Aft.imp (AftS.frS q1) fun u H2 ⟨Hz2, F2, k, ρ2, z2, s2, r2, q2⟩ => ?_⟩
    cases ho2 : owL ρ2 i with
    | none => rw [ho2] at q2; cases q2
    | some ds2 =>
      rw [ho2] at q2
      obtain ⟨a2, ha2, hf2, vs2, o3, o4⟩ := z2.owned (owL_some ho2)
      rw [ha'] at ha2; cases ha2
      have q2 : AftS T W P Hz2 H2 F2 σ (match setAt ds2 k d with
        | some ds' => .nx (ρ2.set i (.ow (.list ds')))
        | none => .bad) D := q2
      cases k with
      | int n =>
        unfold setAt at q2
        cases hj : ixN ds2.length n with
        | none => simp only [hj] at q2; cases q2
        | some j =>
          simp only [hj] at q2
          cases r2
          refine ⟨a, vs2, n, j, rfl, rfl, o3, by rw [o4.length]; exact hj, ?_⟩
          exact q2 σ Hz2 _ F2 (z2.write (owL_some ho2) ha' hf2 ⟨_, upd_same, o4.set (r1.mono s2.z) j⟩) (.write ⟨i, by rw [hf2]; simp⟩) (.refl _ _)
      | _ => cases q2
  · rw [if_neg ho] at q1; cases q1
end
end FK
set_option Elab.async false
set_option linter.all false
set_option maxRecDepth 100000
/-! FK 9: lent names; list comprehensions. -/
namespace FK
open PySem PySem.Spec PyProof.Rows L2
mutual
/-- no list, no dict within -/
def pureD : D → Bool
  | .tuple ds => pureL ds
  | .list _ => false
  | .dict _ => false
  | _ => true
def pureL : List D → Bool
  | [] => true
  | d :: ds => pureD d && pureL ds
end
def pureB : B → Bool
  | .no => true
  | .fr d => pureD d
  | .ow (.list ds) => pureL ds
  | .ow (.dict ps) => ps.all fun p => pureD p.2
  | _ => false
def isFr : B → Bool
  | .fr _ => true
  | _ => false
def drp (H : Hp) (a : Addr) : Hp := fun b => if b = a then none else H b
theorem drp_same {H : Hp} {a : Addr} : drp H a a = none := if_pos rfl
theorem drp_ne {H : Hp} {a b : Addr} (h : b ≠ a) : drp H a b = H b := if_neg h
theorem drp_le {H : Hp} {a : Addr} : Same (drp H a) H := fun b x e => by
  by_cases hb : b = a
  · subst hb; rw [drp_same] at e; cases e
  · rw [drp_ne hb] at e; exact e
/-- what stands there is no tuple -/
def NoTup (o : Option HO) : Prop := ∀ xs, o ≠ some (.tup xs) ∧ ∀ u, o ≠ some (.frz u (.tup xs))
theorem seqT_drp {K : Fg} {H : Hp} {a b : Addr} {xs : List V} (n : NoTup (H a)) (h : SqT K H b xs) : SqT K (drp H a) b xs := by
  rcases h with h | h
  · left
    by_cases hb : b = a
    · subst hb
      rcases h with h | ⟨o, h⟩
      · exact absurd h (n xs).1
      · exact absurd h ((n xs).2 o)
    · rcases h with h | ⟨o, h⟩
      · exact .inl (by rw [drp_ne hb]; exact h)
      · exact .inr ⟨o, by rw [drp_ne hb]; exact h⟩
  · exact .inr h
mutual
theorem Rep.drp {K : Fg} {H : Hp} {a : Addr} (n : NoTup (H a)) : ∀ {v : V} {d : D}, Rep K H v d → pureD d = true → Rep K (drp H a) v d
  | _, _, .non, _ => .non
  | _, _, .bl b, _ => .bl b
  | _, _, .int i, _ => .int i
  | _, _, .str x, _ => .str x
  | _, _, .lst h r, p => by simp [pureD] at p
  | _, _, .tup h r, p => .tup (seqT_drp n h) (RepL.drp n r (by simpa [pureD] using p))
  | _, _, .dK h r, p => by simp [pureD] at p
  | _, _, .dT h r, p => by simp [pureD] at p
theorem RepL.drp {K : Fg} {H : Hp} {a : Addr} (n : NoTup (H a)) : ∀ {vs : List V} {ds : List D}, RepL K H vs ds → pureL ds = true → RepL K (drp H a) vs ds
  | _, _, .nil, _ => .nil
  | _, _, .cons r t, p => by
    rw [pureL, Bool.and_eq_true] at p
    exact .cons (Rep.drp n r p.1) (RepL.drp n t p.2)
end
theorem RepP.drp {K : Fg} {H : Hp} {a : Addr} (n : NoTup (H a)) : ∀ {vs : List (D × V)} {ds : List (D × D)}, RepP K H vs ds → (ds.all fun p => pureD p.2) = true → RepP K (drp H a) vs ds
  | _, _, .nil, _ => .nil
  | _, _, .cons r t, p => by
    rw [List.all_cons, Bool.and_eq_true] at p
    exact .cons (r.drp n p.1) (RepP.drp n t p.2)
theorem MRep.drp {K : Fg} {Hz H : Hp} {a : Addr} {fp : List Addr} {v : V} {b : B} (n : NoTup (Hz a)) (m : MRep K Hz H fp v b) (p : pureB b = true) : MRep K (drp Hz a) H fp v b := by
  cases b with
  | no => exact m
  | fr d => exact ⟨m.1, m.2.drp n p⟩
  | ow d =>
    obtain ⟨c, h1, h2, o⟩ := m
    refine ⟨c, h1, h2, ?_⟩
    cases d with
    | list ds => obtain ⟨vs, q, r⟩ := o; exact ⟨vs, q, r.drp n p⟩
    | dict ps =>
      rcases o with ⟨k, q, r⟩ | ⟨k, q, r⟩
      · exact .inl ⟨k, q, r.drp n p⟩
      · exact .inr ⟨k, q, r.drp n p⟩
    | _ => cases o
  | ob c fs => cases m
open Classical in
/-- behind e, name i may be owned again: what came and what changed leans on no list or dict -/
noncomputable def okBack (i : Nat) (d : D) (b : B) (ρ ρ' : Env) : Bool := pureB b && decide (ρ'[i]? = some (.fr d)) && decide (∀ j, j ≠ i → ∀ c, ρ'[j]? = some c → pureB c = true ∨ (ρ[j]? = some c ∧ isFr c = true))
/-- e, while name i is lent: frozen; behind e it is owned again where nothing leans on it -/
noncomputable def sLend (i : Nat) (f : SE) : SE := fun ρ => match ρ[i]? with
  | some (.ow d) => (f (ρ.set i (.fr d))).bnd fun b ρ' => if okBack i d b ρ ρ' = true then .ok b (ρ'.set i (.ow d)) else .ok b ρ'
  | _ => f ρ
section
variable {K : Fg} {Hz H Hz1 H1 : Hp} {F F1 : Nat → List Addr} {σ : L2.St} {ρ ρ' : Env} {i : Nat} {a : Addr} {d : D} {b : B} {v : V}
theorem noTup_of {K : Fg} {Hz H : Hp} {a : Addr} {d : D} (o : OwRep K Hz H a d) : NoTup (H a) := by
  cases d with
  | list ds => obtain ⟨vs, q, _⟩ := o; rw [q]; exact fun xs => ⟨(fun z => nomatch z), (fun u z => nomatch z)⟩
  | dict ps =>
    rcases o with ⟨k, q, _⟩ | ⟨k, q, _⟩
    · rw [q]; exact fun xs => ⟨(fun z => nomatch z), (fun u z => nomatch z)⟩
    · rw [q]; exact fun xs => ⟨(fun z => nomatch z), (fun u z => nomatch z)⟩
  | _ => cases o
theorem Zone.lend (z : Zone K Hz H σ ρ F) (hi : ρ[i]? = some (.ow d)) (hv : σ[i]? = some (some (.ref a))) (hf : F i = [a]) (o : OwRep K Hz H a d) : Zone K (frz1 Hz H a) H σ (ρ.set i (.fr d)) (putF F i []) := by
  have hz : Hz a = none := z.out i a (by rw [hf]; simp)
  have z1 := z.clear (i := i)
  have z2 := z1.freeze hz fun w => by
    rcases own_put w with w | ⟨j, hj, w⟩
    · cases w
    · exact hj (z.apart j i a w (by rw [hf]; simp))
  have hl : i < ρ.length := (List.getElem?_eq_some_iff.mp hi).1
  have z3 := z2.store (i := i) (b := .fr d) (v := .ref a) (fp := []) (by rw [List.length_set]; exact hl) ⟨rfl, o.rep hz⟩ fun c hc => nomatch hc
  rw [List.set_set] at z3
  have e : σ.set i (some (V.ref a)) = σ := by
    apply List.ext_getElem?
    intro j
    by_cases hj : j = i
    · subst hj; rw [List.getElem?_set_self (by rw [← z.len]; exact hl), hv]
    · rw [List.getElem?_set_ne (Ne.symm hj)]
  rw [e] at z3
  have e2 : putF (putF F i []) i [] = putF F i [] := by
    funext j
    by_cases hj : j = i
    · subst hj; rw [putF_same, putF_same]
    · rw [putF_ne hj]
  rw [e2] at z3
  exact z3
theorem Step.lend (hz : Hz a = none) (hf : F i = [a]) : Step Hz H F (frz1 Hz H a) H (putF F i []) :=
  ⟨frz1_ge hz, fun _ _ h _ => h, fun b h => by
    by_cases hb : b = a
    · subst hb; exact .inr (.inr ⟨i, by rw [hf]; simp⟩)
    · rw [frz1_ne hb] at h; exact .inl h, fun b h => (own_put h).elim (fun w => nomatch w) fun ⟨j, _, w⟩ => .inr ⟨j, w⟩, fun _ h => h⟩
theorem Zone.unlend (z : Zone K Hz H σ ρ F) (hi : ρ[i]? = some (.ow d)) (hv : σ[i]? = some (some (.ref a))) (hf : F i = [a]) (o : OwRep K Hz H a d) (z1 : Zone K Hz1 H1 σ ρ' F1) (s : Step Hz H F Hz1 H1 F1) (hs : Same (frz1 Hz H a) Hz1)
    (hb : ∀ j, j ≠ i → ∀ c, ρ'[j]? = some c → pureB c = true ∨ (ρ[j]? = some c ∧ isFr c = true)) (hr : ρ'[i]? = some (.fr d)) : Zone K (FK.drp Hz1 a) H1 σ (ρ'.set i (.ow d)) (putF F1 i [a]) ∧ NoTup (Hz1 a) ∧ ¬ Own F1 a := by
  have hz : Hz a = none := z.out i a (by rw [hf]; simp)
  have ea : Hz1 a = H a := by
    obtain ⟨x, hx⟩ := ex_of_ne (z.there (a := a) ⟨i, by rw [hf]; simp⟩)
    rw [hs a x (by rw [frz1_same]; exact hx), hx]
  have nt : NoTup (Hz1 a) := by rw [ea]; exact noTup_of o
  have na : ¬ Own F1 a := fun w => by
    have := z1.notIn w
    rw [ea] at this
    exact z.there (a := a) ⟨i, by rw [hf]; simp⟩ this
  have hl : i < ρ'.length := (List.getElem?_eq_some_iff.mp hr).1
  have sd : Same Hz (FK.drp Hz1 a) := fun c x e => by
    have hc : c ≠ a := ne_of_none e hz
    rw [drp_ne hc]; exact s.z c x e
  have e1 : H1 a = H a := by
    obtain ⟨x, hx⟩ := ex_of_ne (z.there (a := a) ⟨i, by rw [hf]; simp⟩)
    rw [hx]; exact z1.sub a x (by rw [ea]; exact hx)
  have fi1 : F1 i = [] := by
    cases q : F1 i with
    | nil => rfl
    | cons c r =>
      obtain ⟨w, _, m⟩ := z1.slot i _ hr (fun w => nomatch w)
      rw [q] at m
      exact absurd m.1 (fun w => nomatch w)
  refine ⟨⟨drp_le.trans z1.sub, by rw [List.length_set]; exact z1.len, fun j c hj hn => ?_, fun j c hc => ?_, fun j k c h1 h2 => ?_, fun j h => ?_⟩, nt, na⟩
  · by_cases e : j = i
    · subst e
      rw [List.getElem?_set_self hl] at hj
      cases hj
      exact ⟨.ref a, hv, a, rfl, putF_same, o.keep sd e1⟩
    · rw [set_ge e] at hj
      obtain ⟨w, h1, h2⟩ := z1.slot j c hj hn
      rw [putF_ne e]
      refine ⟨w, h1, ?_⟩
      rcases hb j e c hj with p | ⟨p, q⟩
      · exact h2.drp nt p
      · cases c with
        | fr d' =>
          obtain ⟨w', h3, h4⟩ := z.slot j _ p (fun w => nomatch w)
          rw [h1] at h3; cases h3
          exact ⟨h2.1, h4.2.mono sd⟩
        | _ => cases q
  · by_cases e : j = i
    · subst e
      rw [putF_same] at hc
      have : c = a := by simpa using hc
      subst this; exact drp_same
    · rw [putF_ne e] at hc
      by_cases hca : c = a
      · subst hca; exact drp_same
      · rw [drp_ne hca]; exact z1.out j c hc
  · by_cases e : j = i
    · subst e
      by_cases e2 : k = j
      · exact e2.symm
      · rw [putF_same] at h1; rw [putF_ne e2] at h2
        have : c = a := by simpa using h1
        subst this; exact absurd ⟨k, h2⟩ na
    · rw [putF_ne e] at h1
      by_cases e2 : k = i
      · subst e2
        rw [putF_same] at h2
        have : c = a := by simpa using h2
        subst this; exact absurd ⟨j, h1⟩ na
      · rw [putF_ne e2] at h2; exact z1.apart j k c h1 h2
  · by_cases e : j = i
    · subst e
      rcases h with h | h
      · rw [List.getElem?_set_self hl] at h; cases h
      · rw [List.getElem?_set_self hl] at h; cases h
    · rw [set_ge e] at h
      rw [putF_ne e]; exact z1.dead j h
end
section
variable {X : Cx} {T : Tx} {W : WX} {e : Expr} {f : SE}
theorem e_lend {i : Nat} (he : PE X e (tE T W f)) : PE X e (tE T W (sLend i f)) := by
  refine PE.mono he fun σ H Q ⟨Hz, ρ, F, z, h⟩ => ?_
  unfold sLend at h
  cases q : ρ[i]? with
  | none => rw [q] at h; exact ⟨Hz, ρ, F, z, h⟩
  | some b =>
    rw [q] at h
    cases b with
    | ow d =>
      obtain ⟨a, hv, hf, o⟩ := z.owned q
      have hz : Hz a = none := z.out i a (by rw [hf]; simp)
      have st := Step.lend (H := H) hz hf
      refine ⟨_, _, _, z.lend q hv hf o, ?_⟩
      have h : Aft T W Hz H F σ (PB T.K F) ((f (ρ.set i (.fr d))).bnd fun b ρ' => if okBack i d b ρ ρ' = true then .ok b (ρ'.set i (.ow d)) else .ok b ρ') Q := h
      generalize f (ρ.set i (.fr d)) = r at h
      cases r with
      | bad => exact h
      | exc x ρ' => exact fun cls dd Hz' H' F' z' s' q' => h cls dd Hz' H' F' z' (st.trans s') q'
      | ok b ρ' =>
        intro v Hz' H' F' z' s' pb
        have s2 := st.trans s'
        have pb2 : PB T.K F b v H Hz' H' F' := by
          obtain ⟨fp, m, k⟩ := pb
          refine ⟨fp, m, fun c hc => ⟨(k c hc).1, (k c hc).2.1, (k c hc).2.2.imp id fun w => ?_⟩⟩
          rcases own_put w with w | ⟨j, _, w⟩
          · cases w
          · exact ⟨j, w⟩
        by_cases ok : okBack i d b ρ ρ' = true
        · have h : Aft T W Hz H F σ (PB T.K F) (if okBack i d b ρ ρ' = true then .ok b (ρ'.set i (.ow d)) else .ok b ρ') Q := h
          rw [if_pos ok] at h
          unfold okBack at ok
          simp only [Bool.and_eq_true, decide_eq_true_eq] at ok
          obtain ⟨⟨k1, k2⟩, k3⟩ := ok
          obtain ⟨z2, nt, na⟩ := z.unlend q hv hf o z' s2 s'.z k3 k2
          obtain ⟨fp, m, k⟩ := pb2
          have ka : a ∉ fp := fun w => by
            have := (k a w).1
            obtain ⟨x, hx⟩ := ex_of_ne (z.there (a := a) ⟨i, by rw [hf]; simp⟩)
            rw [s'.z a x (by rw [frz1_same]; exact hx)] at this
            cases this
          refine h v _ H' _ z2 ⟨fun c x e => by rw [drp_ne (ne_of_none e hz)]; exact s2.z c x e, s2.fr, fun c hc => s2.nz c fun w => hc (by
            by_cases hca : c = a
            · subst hca; exact drp_same
            · rw [drp_ne hca]; exact w), fun c hc => ?_, s2.dom⟩ ⟨fp, m.drp nt k1, fun c hc => ⟨?_, fun w => ?_, (k c hc).2.2⟩⟩
          · rcases own_put hc with w | ⟨j, _, w⟩
            · have : c = a := by simpa using w
              subst this; exact .inr ⟨i, by rw [hf]; simp⟩
            · exact s2.no c ⟨j, w⟩
          · by_cases hca : c = a
            · subst hca; exact drp_same
            · rw [drp_ne hca]; exact (k c hc).1
          · rcases own_put w with w | ⟨j, _, w⟩
            · have : c = a := by simpa using w
              subst this; exact ka hc
            · exact (k c hc).2.1 ⟨j, w⟩
        · have h : Aft T W Hz H F σ (PB T.K F) (if okBack i d b ρ ρ' = true then .ok b (ρ'.set i (.ow d)) else .ok b ρ') Q := h
          rw [if_neg ok] at h
          exact h v Hz' H' F' z' s2 pb2
    | no => exact ⟨Hz, ρ, F, z, h⟩
    | fr d => exact ⟨Hz, ρ, F, z, h⟩
    | ob c fs => exact ⟨Hz, ρ, F, z, h⟩
end
end FK
set_option Elab.async false
set_option linter.all false
set_option maxRecDepth 100000
/-! FK 10: list comprehensions. -/
namespace FK
open PySem PySem.Spec PyProof.Rows L2
def wipeB (vs : List Nat) (ρ : Env) : Env := match vs with
  | [] => ρ
  | v :: r => (wipeB r ρ).set v .no
/-- behind a block: the block's own names as they were ahead -/
def keepE (vs : List Nat) (ρ ρ' : Env) : Env := match vs with
  | [] => ρ'
  | v :: r => match ρ[v]? with
    | some b => (keepE r ρ ρ').set v b
    | none => keepE r ρ ρ'
def wipeF (vs : List Nat) (F : Nat → List Addr) : Nat → List Addr := fun i => if i ∈ vs then [] else F i
def keepF (vs : List Nat) (F F' : Nat → List Addr) : Nat → List Addr := fun i => if i ∈ vs then F i else F' i
theorem wipeB_length (ρ : Env) : ∀ vs : List Nat, (wipeB vs ρ).length = ρ.length
  | [] => rfl
  | v :: r => by unfold wipeB; rw [List.length_set, wipeB_length ρ r]
theorem wipeB_out {ρ : Env} {i : Nat} : ∀ {vs : List Nat}, i ∉ vs → (wipeB vs ρ)[i]? = ρ[i]?
  | [], _ => rfl
  | v :: r, h => by
    simp only [List.mem_cons, not_or] at h
    unfold wipeB; rw [set_ge h.1]; exact wipeB_out h.2
theorem wipeB_in {ρ : Env} {i : Nat} : ∀ {vs : List Nat}, i ∈ vs → (wipeB vs ρ)[i]? = none ∨ (wipeB vs ρ)[i]? = some .no
  | v :: r, h => by
    unfold wipeB
    by_cases e : i = v
    · subst e
      by_cases hl : i < (wipeB r ρ).length
      · exact .inr (List.getElem?_set_self hl)
      · exact .inl (List.getElem?_eq_none (by simpa using hl))
    · rw [set_ge e]
      exact wipeB_in ((List.mem_cons.mp h).resolve_left e)
theorem wipe_out {σ : L2.St} {i : Nat} : ∀ {vs : List Nat}, i ∉ vs → (wipe σ vs)[i]? = σ[i]?
  | [], _ => rfl
  | v :: r, h => by
    simp only [List.mem_cons, not_or] at h
    unfold wipe; rw [set_ge h.1]; exact wipe_out h.2
theorem keepE_length {ρ ρ' : Env} : ∀ vs : List Nat, (keepE vs ρ ρ').length = ρ'.length
  | [] => rfl
  | v :: r => by
    unfold keepE
    split
    · rw [List.length_set, keepE_length r]
    · exact keepE_length r
theorem keepE_out {ρ ρ' : Env} {i : Nat} : ∀ {vs : List Nat}, i ∉ vs → (keepE vs ρ ρ')[i]? = ρ'[i]?
  | [], _ => rfl
  | v :: r, h => by
    simp only [List.mem_cons, not_or] at h
    unfold keepE
    split
    · rw [set_ge h.1]; exact keepE_out h.2
    · exact keepE_out h.2
theorem keepE_in {ρ ρ' : Env} {i : Nat} (hl : ρ'.length = ρ.length) : ∀ {vs : List Nat}, i ∈ vs → (keepE vs ρ ρ')[i]? = ρ[i]?
  | v :: r, h => by
    unfold keepE
    by_cases e : i = v
    · subst e
      split
      · rename_i b hb
        rw [List.getElem?_set_self (by rw [keepE_length, hl]; exact (List.getElem?_eq_some_iff.mp hb).1), hb]
      · rename_i hb
        rw [hb]
        refine List.getElem?_eq_none ?_
        rw [keepE_length, hl]
        exact List.getElem?_eq_none_iff.mp hb
    · split
      · rw [set_ge e]; exact keepE_in hl ((List.mem_cons.mp h).resolve_left e)
      · exact keepE_in hl ((List.mem_cons.mp h).resolve_left e)
theorem own_wipe {vs : List Nat} {F : Nat → List Addr} {a : Addr} (h : Own (wipeF vs F) a) : ∃ i, i ∉ vs ∧ a ∈ F i := by
  obtain ⟨i, hi⟩ := h
  unfold wipeF at hi
  split at hi
  · cases hi
  · rename_i e; exact ⟨i, e, hi⟩
section
variable {K : Fg} {Hz H Hz1 H1 : Hp} {F F1 : Nat → List Addr} {σ σ1 : L2.St} {ρ ρ1 : Env} {vs : List Nat}
theorem Zone.wipe (z : Zone K Hz H σ ρ F) : Zone K Hz H (L2.wipe σ vs) (wipeB vs ρ) (wipeF vs F) where
  sub := z.sub
  len := by rw [wipeB_length, wipe_length]; exact z.len
  slot := fun i b h hn => by
    by_cases e : i ∈ vs
    · rcases wipeB_in (ρ := ρ) e with q | q
      · rw [q] at h; cases h
      · rw [q] at h; cases h; exact absurd rfl hn
    · rw [wipeB_out e] at h
      obtain ⟨v, h1, m⟩ := z.slot i b h hn
      exact ⟨v, by rw [wipe_out e]; exact h1, by unfold wipeF; rw [if_neg e]; exact m⟩
  out := fun i a h => by
    obtain ⟨j, _, w⟩ := own_wipe ⟨i, h⟩
    exact z.out j a w
  apart := fun i j a h1 h2 => by
    unfold wipeF at h1 h2
    split at h1
    · cases h1
    · split at h2
      · cases h2
      · exact z.apart i j a h1 h2
  dead := fun i h => by
    unfold wipeF
    by_cases e : i ∈ vs
    · rw [if_pos e]
    · rw [if_neg e]
      rw [wipeB_out e] at h
      exact z.dead i h
theorem Step.wipe : Step Hz H F Hz H (wipeF vs F) := ⟨.refl _, fun _ _ h _ => h, fun _ h => .inl h, fun a h => by
  obtain ⟨i, _, w⟩ := own_wipe h
  exact .inr ⟨i, w⟩, fun _ h => h⟩
/-- behind the block, in the def's own names -/
theorem Zone.unwipe (z : Zone K Hz H σ ρ F) (z1 : Zone K Hz1 H1 σ1 ρ1 F1) (s : Step Hz H (wipeF vs F) Hz1 H1 F1) (c : Chg vs (L2.wipe σ vs) σ1) : Zone K Hz1 H1 σ (keepE vs ρ ρ1) (keepF vs F F1) ∧ Step Hz H F Hz1 H1 (keepF vs F F1) := by
  have hl : ρ1.length = ρ.length := by rw [z1.len, c.1, wipe_length, ← z.len]
  have keepAt : ∀ i a, i ∈ vs → a ∈ F i → H1 a = H a ∧ Hz1 a = none ∧ ¬ Own F1 a := fun i a e ha => by
    have nw : ¬ Own (wipeF vs F) a := fun w => by
      obtain ⟨j, hj, w⟩ := own_wipe w
      have := z.apart i j a ha w
      subst this; exact hj e
    have hne := z.there ⟨i, ha⟩
    obtain ⟨o, ho⟩ := ex_of_ne hne
    refine ⟨by rw [s.fr a o ho nw, ho], ?_, fun w => ?_⟩
    · cases q : Hz1 a with
      | none => rfl
      | some o' =>
        rcases s.nz a (by rw [q]; exact fun w => nomatch w) with w | w | w
        · exact absurd (z.out i a ha) w
        · exact absurd w hne
        · exact absurd w nw
    · rcases s.no a w with w | w
      · exact hne w
      · exact nw w
  have sl : ∀ i, i ∉ vs → σ1[i]? = σ[i]? := fun i e => by rw [c.2 i e, wipe_out e]
  refine ⟨⟨z1.sub, by rw [keepE_length, hl]; exact z.len, fun i b h hn => ?_, fun i a h => ?_, fun i j a h1 h2 => ?_, fun i h => ?_⟩, ⟨s.z, fun a o h n => s.fr a o h fun w => ?_, fun a h => (s.nz a h).imp id fun w => w.imp id fun w => ?_, fun a h => ?_, s.dom⟩⟩
  · by_cases e : i ∈ vs
    · rw [keepE_in hl e] at h
      obtain ⟨v, h1, m⟩ := z.slot i b h hn
      refine ⟨v, h1, ?_⟩
      unfold keepF; rw [if_pos e]
      exact m.keep s.z fun a ha => (keepAt i a e ha).1
    · rw [keepE_out e] at h
      obtain ⟨v, h1, m⟩ := z1.slot i b h hn
      refine ⟨v, by rw [← sl i e]; exact h1, ?_⟩
      unfold keepF; rw [if_neg e]; exact m
  · unfold keepF at h
    by_cases e : i ∈ vs
    · rw [if_pos e] at h; exact (keepAt i a e h).2.1
    · rw [if_neg e] at h; exact z1.out i a h
  · unfold keepF at h1 h2
    by_cases e : i ∈ vs
    · rw [if_pos e] at h1
      by_cases e2 : j ∈ vs
      · rw [if_pos e2] at h2; exact z.apart i j a h1 h2
      · rw [if_neg e2] at h2; exact absurd ⟨j, h2⟩ (keepAt i a e h1).2.2
    · rw [if_neg e] at h1
      by_cases e2 : j ∈ vs
      · rw [if_pos e2] at h2; exact absurd ⟨i, h1⟩ (keepAt j a e2 h2).2.2
      · rw [if_neg e2] at h2; exact z1.apart i j a h1 h2
  · unfold keepF
    by_cases e : i ∈ vs
    · rw [if_pos e]; rw [keepE_in hl e] at h; exact z.dead i h
    · rw [if_neg e]; rw [keepE_out e] at h; exact z1.dead i h
  · obtain ⟨j, _, w⟩ := own_wipe w
    exact n ⟨j, w⟩
  · obtain ⟨i, hi⟩ := h
    unfold keepF at hi
    by_cases e : i ∈ vs
    · rw [if_pos e] at hi; exact .inr ⟨i, hi⟩
    · rw [if_neg e] at hi
      exact (s.no a ⟨i, hi⟩).imp id fun w => by
        obtain ⟨j, _, w⟩ := own_wipe w
        exact ⟨j, w⟩
  · obtain ⟨j, _, w⟩ := own_wipe w
    exact ⟨j, w⟩
theorem wipe_chg {L : List Nat} (hL : ∀ i ∈ L, i ∈ vs) (c : Chg L (L2.wipe σ vs) σ1) : L2.wipe σ1 vs = L2.wipe σ vs := by
  have hlen : (L2.wipe σ1 vs).length = (L2.wipe σ vs).length := by rw [wipe_length, c.1]
  apply List.ext_getElem?
  intro i
  by_cases e : i ∈ vs
  · have key : ∀ τ : L2.St, (L2.wipe τ vs)[i]? = if i < τ.length then some none else none := fun τ => by
      clear hlen hL c
      induction vs with
      | nil => cases e
      | cons v r ih =>
        unfold L2.wipe
        by_cases hv : i = v
        · subst hv
          by_cases hl : i < τ.length
          · rw [if_pos hl, List.getElem?_set_self (by rw [wipe_length]; exact hl)]
          · rw [if_neg hl, List.getElem?_eq_none (by rw [List.length_set, wipe_length]; omega)]
        · rw [set_ge hv]; exact ih ((List.mem_cons.mp e).resolve_left hv)
    rw [key, key, c.1, wipe_length]
  · rw [wipe_out e, wipe_out e, c.2 i fun w => e (hL i w), wipe_out e]
theorem Chg.mono {L M : List Nat} (h : ∀ i ∈ L, i ∈ M) (c : Chg L σ σ1) : Chg M σ σ1 := ⟨c.1, fun i hi => c.2 i fun w => hi (h i w)⟩
end
/-- the turns of a comprehension -/
def lcR (vs : List Nat) (g : SG) (ct : STs) (fe : SE) : List D → List D → Env → RE
  | [], acc, ρ => .ok (.ow (.list acc)) ρ
  | d :: ds, acc, ρ => match g d (wipeB vs ρ) with
    | none => .bad
    | some ρ2 => match ct ρ2 with
      | .ok false ρ3 => lcR vs g ct fe ds acc (keepE vs ρ ρ3)
      | .ok true ρ3 => (match fe ρ3 with
        | .ok b ρ4 => (match frz b with
          | some y => if acc.length < sizeLine then lcR vs g ct fe ds (acc ++ [y]) (keepE vs ρ ρ4) else .bad
          | none => .bad)
        | _ => .bad)
      | _ => .bad
def sLc (vs : List Nat) (it : SI) (g : SG) (ct : STs) (fe : SE) : SE := fun ρ => (it ρ).bnd fun ds ρ1 => lcR vs g ct fe ds [] ρ1
def sYes : STs := fun ρ => .ok true ρ
abbrev W0 : WX := fun _ _ _ _ => False
def tTs (T : Tx) (W : WX) (f : STs) : TT := tT T W f
theorem e_lc {X : Cx} {T : Tx} {W : WX} {elt tg iter : Expr} {ifs : List Expr} {scope : Scope} {own : List (Str × Nat)} {pos : Pos} {it : SI} {g : SG} {ct : STs} {fe : SE} {L : List Nat} (hc : X.calm = true) (hN : X.N.Nodup) (hi : PI X tg iter (tI T W it)) (ok : BlkOk X.N X.env.scope scope own)
    (hL : ∀ i ∈ L, i ∈ own.map (·.2))
    (hg : ∀ (s : Shared) (H : Hp) (C : Addr) (cl : List (Str × Addr)) (fp : List Addr), PG (X.blk s H scope (compEnvC scope cl C X.env) fp) tg (tG T L g))
    (ht : ∀ (s : Shared) (H : Hp) (C : Addr) (cl : List (Str × Addr)) (fp : List Addr), PTs (X.blk s H scope (compEnvC scope cl C X.env) fp) ifs (tT T W0 ct))
    (he : ∀ (s : Shared) (H : Hp) (C : Addr) (cl : List (Str × Addr)) (fp : List Addr), PE (X.blk s H scope (compEnvC scope cl C X.env) fp) elt (tE T W0 fe)) (hs : ∀ x, foldedSetIterable iter X.env x = pure x) {t : TE}
    (ht0 : t = tLc (tI T W it) (tG T L g) (tT T W0 ct) (tE T W0 fe) (own.map (·.2))) {σ : L2.St} {H : Hp} {Q : VK} (h : tE T W (sLc (own.map (·.2)) it g ct fe) σ H Q) : t σ H Q := by
  subst ht0
  generalize own.map (·.2) = vs at *
  obtain ⟨Hz, ρ, F, z, h⟩ := h
  refine ⟨Hz, ρ, F, z, Aft.imp (Aft.bnd (P := PIt T.K) h) fun J H1 ⟨Hz1, F1, ds, ρ1, z1, s1, r1, q1⟩ => fun D hD => ?_⟩
  obtain ⟨G, Y, wk, hG, hY⟩ := r1
  have q2 := q1.fromB s1
  refine lc_it wk (fun i H' => ∃ Hz' ρ' F' accV accD, Zone T.K Hz' H' σ ρ' F' ∧ Step Hz1 H1 F1 Hz' H' F' ∧ H' D = some (.lst accV) ∧ RepL T.K Hz' accV accD ∧ Hz' D = none ∧ ¬ Own F' D ∧ Aft T W Hz1 H1 F1 σ (PB T.K F1) (lcR vs g ct fe (ds.drop i) accD ρ') Q)
    ⟨Hz1, ρ1, F1, [], [], z1.push0 hD, .push0 hD, upd_same, .nil, z1.sub.free hD, fun w => z1.there w hD, q2⟩ (fun i H' _ ⟨Hz', ρ', F', accV, accD, z', sm, _⟩ => hG H' (sm.z.trans z'.sub)) (fun i x H' H'' hi ⟨Hz', ρ', F', accV, accD, z', sm, k1, k2, k3, k4, q⟩ y => ?_) fun H' ⟨Hz', ρ', F', accV, accD, z', sm, k1, k2, k3, k4, q⟩ => ?_
  · obtain ⟨d, hd, n⟩ := hY i H' x H'' Hz' hi y sm.z z'.sub
    obtain ⟨Hz2, z2, s2, pb⟩ := new_zone z' n
    obtain ⟨fp, m, _⟩ := pb
    have hdr : ds.drop i = d :: ds.drop (i + 1) := by
      rw [List.drop_eq_getElem_cons hi]
      rw [List.getElem?_eq_getElem hi] at hd
      cases hd; rfl
    rw [hdr] at q
    unfold lcR at q
    have sw : Step Hz2 H'' F' Hz2 H'' (wipeF vs F') := .wipe
    refine ⟨Hz2, _, _, d, z2.wipe (vs := vs), m.2, ?_⟩
    cases eg : g d (wipeB vs ρ') with
    | none => rw [eg] at q; cases q
    | some ρ2 =>
      rw [eg] at q
      intro σ3 Hz3 H3 F3 z3 s3 c3
      refine ⟨wipe_chg hL c3, Hz3, ρ2, F3, z3, ?_⟩
      -- the new list stands through the turn
      have stay : ∀ {Hz4 H4 : Hp} {F4 : Nat → List Addr}, Step Hz2 H'' (wipeF vs F') Hz4 H4 F4 → H4 D = some (.lst accV) ∧ Hz4 D = none ∧ ¬ Own F4 D := fun {Hz4 H4 F4} s4 => by
        have a1 : H'' D = some (.lst accV) := s2.fr D _ k1 k4
        have a2 : ¬ Own (wipeF vs F') D := fun w => by
          obtain ⟨j, _, w⟩ := own_wipe w
          exact k4 ⟨j, w⟩
        have a3 : Hz2 D = none := by
          cases e : Hz2 D with
          | none => rfl
          | some o =>
            rcases s2.nz D (by rw [e]; exact fun w => nomatch w) with w | w | w
            · exact absurd k3 w
            · rw [k1] at w; cases w
            · exact absurd w k4
        refine ⟨s4.fr D _ a1 a2, ?_, fun w => ?_⟩
        · cases e : Hz4 D with
          | none => rfl
          | some o =>
            rcases s4.nz D (by rw [e]; exact fun w => nomatch w) with w | w | w
            · exact absurd a3 w
            · rw [a1] at w; cases w
            · exact absurd w a2
        · rcases s4.no D w with w | w
          · rw [a1] at w; cases w
          · exact a2 w
      -- the end of a turn
      have back : ∀ {Hz4 H4 : Hp} {F4 : Nat → List Addr} {ρ4 : Env}, Zone T.K Hz4 H4 σ3 ρ4 F4 → Step Hz2 H'' (wipeF vs F') Hz4 H4 F4 → Zone T.K Hz4 H4 σ (keepE vs ρ' ρ4) (keepF vs F' F4) ∧ Step Hz1 H1 F1 Hz4 H4 (keepF vs F' F4) ∧ ¬ Own (keepF vs F' F4) D := fun {Hz4 H4 F4 ρ4} z4 s4 => by
        obtain ⟨a1, a2⟩ := z2.unwipe z4 s4 (c3.mono hL)
        refine ⟨a1, sm.trans (s2.trans a2), fun w => ?_⟩
        obtain ⟨j, hj⟩ := w
        unfold keepF at hj
        split at hj
        · exact k4 ⟨j, hj⟩
        · exact (stay s4).2.2 ⟨j, hj⟩
      cases ec : ct ρ2 with
      | bad => simp only [ec] at q; cases q
      | exc x ρ3 => simp only [ec] at q; cases q
      | ok b ρ3 =>
        intro bb Hz4 H4 F4 z4 s4 eb
        cases eb
        have s34 := s3.trans s4
        cases b with
        | false =>
          simp only [ec] at q
          refine iteF ?_
          obtain ⟨a1, a2, a3⟩ := back z4 s34
          obtain ⟨b1, b2, b3⟩ := stay s34
          exact ⟨Hz4, _, _, accV, accD, a1, a2, b1, k2.mono (s2.z.trans s34.z), b2, a3, q⟩
        | true =>
          simp only [ec] at q
          refine iteT ⟨Hz4, ρ3, F4, z4, ?_⟩
          cases ee : fe ρ3 with
          | bad => simp only [ee] at q; cases q
          | exc x ρ4 => simp only [ee] at q; cases q
          | ok b ρ4 =>
            simp only [ee] at q
            intro yv Hz5 H5 F5 z5 s5 pb
            cases ef : frz b with
            | none => simp only [ef] at q; cases q
            | some y =>
              simp only [ef] at q
              obtain ⟨Hz6, z6, s6, r6⟩ := freeze ef z5 s5 pb
              have s36 := s34.trans s6
              obtain ⟨a1, a2, a3⟩ := back z6 s36
              obtain ⟨b1, b2, b3⟩ := stay s36
              by_cases hl : accD.length < sizeLine
              · simp only [hl, if_true] at q
                have kr := k2.mono (s2.z.trans s36.z)
                refine ⟨accV, b1, by rw [kr.length]; exact hl, Hz6, _, _, accV ++ [yv], accD ++ [y], a1.keep (.refl _) (fun c o e => ?_) (fun c hc => upd_ne fun w => by subst w; exact a3 hc) (fun c hc => a1.notIn hc), ⟨a2.z, fun c o e nn => ?_, a2.nz, a2.no, fun c e => ?_⟩, upd_same, kr.append (.cons r6 .nil), b2, a3, q⟩
                · rw [upd_ne (ne_of_none e b2)]; exact a1.sub c o e
                · rw [upd_ne (ne_of_none e hD)]; exact a2.fr c o e nn
                · by_cases hcd : c = D
                  · subst hcd; rw [upd_same]; exact fun w => nomatch w
                  · rw [upd_ne hcd]; exact a2.dom c e
              · simp only [hl, if_false] at q; exact q.elim
  · rw [List.drop_length] at q
    exact q (.ref D) Hz' H' F' z' sm ⟨[D], ⟨D, rfl, rfl, accV, k1, k2⟩, fun c hc => by
      have : c = D := by simpa using hc
      subst this
      exact ⟨k3, k4, .inl hD⟩⟩
end FK
set_option Elab.async false
set_option linter.all false
set_option maxRecDepth 100000
/-! FK 11: operators on data. -/
namespace FK
open PySem PySem.Spec PyProof.Rows L2
open PySem.W (alike dataLt)
mutual
theorem Rep.dp {K : Fg} {H : Hp} : ∀ {v : V} {d : D}, Rep K H v d → d.canLay0 = true → Dp K H v d
  | _, _, .non, _ => .non
  | _, _, .bl b, _ => .bl b
  | _, _, .int i, _ => .int i
  | _, _, .str x, _ => .str x
  | _, _, .lst h r, p => .lst h (RepL.dp r (by simpa [PyData.canLay0] using p))
  | _, _, .tup h r, p => .tup h (RepL.dp r (by simpa [PyData.canLay0] using p))
  | _, _, .dK h r, p => by simp [PyData.canLay0] at p
  | _, _, .dT h r, p => by simp [PyData.canLay0] at p
theorem RepL.dp {K : Fg} {H : Hp} : ∀ {vs : List V} {ds : List D}, RepL K H vs ds → PyData.canLayAll0 ds = true → DpAll K H vs ds
  | _, _, .nil, _ => .nil
  | _, _, .cons r t, p => by
    rw [PyData.canLayAll0, Bool.and_eq_true] at p
    exact .cons (Rep.dp r p.1) (RepL.dp t p.2)
end
/-- no dict within -/
def okEq (d : D) : Bool := SeqAt.shaped d
/-- a tuple and an empty one -/
def empT (d e : D) : Option Bool := match d, e with
  | .tuple ds, .tuple [] => some ds.isEmpty
  | _, _ => none
def gEq (d e : D) : Option B := if okEq d = true ∧ okEq e = true then some (.fr (.bool (PyData.eqv d e))) else (empT d e).map fun b => .fr (.bool b)
def gNe (d e : D) : Option B := if okEq d = true ∧ okEq e = true then some (.fr (.bool (!PyData.eqv d e))) else (empT d e).map fun b => .fr (.bool (!b))
def okLt (d e : D) : Bool := alike d e && (match d with | .none => false | _ => true) && okEq d
def gLt (d e : D) : Option B := if okLt d e = true ∧ okEq e = true then some (.fr (.bool (dataLt d e))) else none
def gGt (d e : D) : Option B := if okLt d e = true ∧ okEq e = true then some (.fr (.bool (dataLt e d))) else none
def gLe (d e : D) : Option B := if okLt d e = true ∧ okEq e = true then some (.fr (.bool (!dataLt e d))) else none
def gGe (d e : D) : Option B := if okLt d e = true ∧ okEq e = true then some (.fr (.bool (!dataLt d e))) else none
def isSign (x : Str) : Bool := x.cps.size == 1
def inD (x c : D) : Option Bool := match c with
  | .list ds => if okEq x = true ∧ okEq c = true then some (ds.any fun z => PyData.eqv z x) else none
  | .tuple ds => if okEq x = true ∧ okEq c = true then some (ds.any fun z => PyData.eqv z x) else none
  | .str z => (match x with
    | .str y => if isSign y = true then some (decide (y.cps.getD 0 0 ∈ z.cps.toList)) else none
    | _ => none)
  | _ => none
def gIn (x c : D) : Option B := (inD x c).map fun b => .fr (.bool b)
def gNotIn (x c : D) : Option B := (inD x c).map fun b => .fr (.bool (!b))
def isNoneD : D → Bool
  | .none => true
  | _ => false
def isD (x c : D) : Option Bool := match c with
  | .none => some (isNoneD x)
  | .bool b => (match x with
    | .bool a => some (decide (a = b))
    | _ => none)
  | _ => none
def gIs (x c : D) : Option B := (isD x c).map fun b => .fr (.bool b)
def gIsNot (x c : D) : Option B := (isD x c).map fun b => .fr (.bool (!b))
def gAdd (d e : D) : Option B := match d, e with
  | .int i, .int j => some (.fr (.int (i + j)))
  | .bool i, .int j => some (.fr (.int ((if i = true then 1 else 0) + j)))
  | .str x, .str y => if x.length + y.length ≤ sizeLine then some (.fr (.str (x ++ y))) else none
  | .list ds, .list es => if ds.length + es.length ≤ sizeLine then some (.ow (.list (ds ++ es))) else none
  | .tuple ds, .tuple es => if ds.length + es.length ≤ sizeLine then some (.fr (.tuple (ds ++ es))) else none
  | _, _ => none
def gSub (d e : D) : Option B := match d, e with
  | .int i, .int j => some (.fr (.int (i - j)))
  | .bool i, .int j => some (.fr (.int ((if i = true then 1 else 0) - j)))
  | .int i, .bool j => some (.fr (.int (i - if j = true then 1 else 0)))
  | _, _ => none
def strMul (x : Str) (n : Int) : Str := ⟨(List.replicate n.toNat x.cps.toList).flatten.toArray⟩
def gMul (d e : D) : Option B := match d, e with
  | .int i, .int j => if i.natAbs.log2 + j.natAbs.log2 < 1000000 then some (.fr (.int (i * j))) else none
  | .str x, .int n => if 2 ≤ n ∧ n ≤ 1000 ∧ 0 < x.length ∧ x.length ≤ 1000 then some (.fr (.str (strMul x n))) else if 2 ≤ n ∧ n ≤ 1000 ∧ x.length = 0 then some (.fr (.str x)) else none
  | _, _ => none
def gFdiv (d e : D) : Option B := match d, e with
  | .int i, .int j => if 0 < j ∧ j.natAbs.log2 < 9000 then some (.fr (.int (i / j))) else none
  | _, _ => none
def gMod (d e : D) : Option B := match d, e with
  | .int i, .int j => if 0 < j then some (.fr (.int (i % j))) else none
  | _, _ => none
def gPow (d e : D) : Option B := match d, e with
  | .int i, .int j => if 0 ≤ j ∧ (Builtin.Int.intBits i : Int) * j ≤ 2 ^ 27 then some (.fr (.int (i ^ j.toNat))) else none
  | _, _ => none
section
variable {X : Cx}
theorem int_of {K : Fg} {H : Hp} {v : V} {i : Int} (r : Rep K H v (.int i)) : v = .int i := by cases r; rfl
theorem str_of {K : Fg} {H : Hp} {v : V} {i : Str} (r : Rep K H v (.str i)) : v = .str i := by cases r; rfl
theorem rep_reads {pins : List (Addr × Obj)} {σ : L2.St} {Hz H : Hp} {s : Shared} {v : V} {u : Value} {d : D} (I : Inv X pins σ H s) (hs : Same Hz H) (r : Rep X.K Hz v d) (h : okEq d = true) (ru : RelV v u) : ∃ as, Reads s.heap u d as :=
  Dp.reads I d v u ((r.mono hs).dp (SeqAt.canLay_of_shaped h)) ru
theorem new_val {K : Fg} {Hz H : Hp} {v : V} {d : D} (hs : Same Hz H) (r : Rep K Hz v d) : New K Hz H (.fr d) v H := .here hs r
theorem empT_some {d e : D} {k : Bool} (h : empT d e = some k) : ∃ ds, d = .tuple ds ∧ e = .tuple [] ∧ k = ds.isEmpty := by
  unfold empT at h
  split at h
  · cases h; exact ⟨_, rfl, rfl, rfl⟩
  · cases h
theorem o_eq (hu : X.A.units + 66 < cLine) : OpR X (compareOp .Eq) (rOf X.K gEq) := by
  intro pins s σ H x y v u Q I rx ry ⟨Hz, d, e, b, hs, r1, r2, hg, q⟩
  unfold gEq at hg
  split at hg
  · rename_i h
    cases hg
    obtain ⟨as, h1⟩ := rep_reads I hs r1 h.1 rx
    obtain ⟨bs, h2⟩ := rep_reads I hs r2 h.2 ry
    exact SeqAt.compareEq_shaped h1 h2 h.1 h.2 (by omega) ⟨.bl _, H, I, rfl, q _ _ (.here hs (.bl _))⟩
  · obtain ⟨k, hk, hb⟩ := Option.map_eq_some_iff.mp hg
    subst hb
    obtain ⟨ds, rfl, rfl, rfl⟩ := empT_some hk
    cases r1 with
    | @tup l xs _ t1 k1 =>
      cases r2 with
      | @tup l2 ys _ t2 k2 =>
        cases rx; cases ry
        obtain ⟨its, v1, p1, z1⟩ := I.tuple (seqT_same hs t1)
        obtain ⟨its2, v2, p2, z2⟩ := I.tuple (seqT_same hs t2)
        cases k2
        cases v2
        have l1 := v1.length
        have l2 := k1.length
        refine SeqAt.eq_tupleAt (e := fun _ => true) p1 p2 (by omega) (fun j h1 h2 => absurd h2 (Nat.not_lt_zero _)) ?_
        have e : ((List.range (min its.toArray.size ([] : List Value).toArray.size)).all (fun _ => true) && its.toArray.size == ([] : List Value).toArray.size) = ds.isEmpty := by
          cases ds with
          | nil => cases its with
            | nil => rfl
            | cons _ _ => simp only [List.length_nil, List.length_cons] at l1 l2; omega
          | cons _ _ => cases its with
            | nil => simp only [List.length_nil, List.length_cons] at l1 l2; omega
            | cons _ _ => simp
        rw [e]
        exact ⟨.bl _, H, I, rfl, q _ _ (.here hs (.bl _))⟩
theorem o_ne (hu : X.A.units + 66 < cLine) : OpR X (compareOp .NotEq) (rOf X.K gNe) := by
  intro pins s σ H x y v u Q I rx ry ⟨Hz, d, e, b, hs, r1, r2, hg, q⟩
  unfold gNe at hg
  split at hg
  · rename_i h
    cases hg
    obtain ⟨as, h1⟩ := rep_reads I hs r1 h.1 rx
    obtain ⟨bs, h2⟩ := rep_reads I hs r2 h.2 ry
    exact SeqAt.compareNe_shaped h1 h2 h.1 h.2 (by omega) ⟨.bl _, H, I, rfl, q _ _ (.here hs (.bl _))⟩
  · obtain ⟨k, hk, hb⟩ := Option.map_eq_some_iff.mp hg
    subst hb
    obtain ⟨ds, rfl, rfl, rfl⟩ := empT_some hk
    cases r1 with
    | @tup l xs _ t1 k1 =>
      cases r2 with
      | @tup l2 ys _ t2 k2 =>
        cases rx; cases ry
        obtain ⟨its, v1, p1, z1⟩ := I.tuple (seqT_same hs t1)
        obtain ⟨its2, v2, p2, z2⟩ := I.tuple (seqT_same hs t2)
        cases k2
        cases v2
        have l1 := v1.length
        have l2 := k1.length
        refine SeqAt.RcNeAt.tuples (e := fun _ => true) p1 p2 (by omega) (fun j h1 h2 => absurd h2 (Nat.not_lt_zero _)) X.prog X.w _ _ ?_
        have e : ((List.range (min its.toArray.size ([] : List Value).toArray.size)).all (fun _ => true) && its.toArray.size == ([] : List Value).toArray.size) = ds.isEmpty := by
          cases ds with
          | nil => cases its with
            | nil => rfl
            | cons _ _ => simp only [List.length_nil, List.length_cons] at l1 l2; omega
          | cons _ _ => cases its with
            | nil => simp only [List.length_nil, List.length_cons] at l1 l2; omega
            | cons _ _ => simp
        rw [e]
        exact ⟨.bl _, H, I, rfl, q _ _ (.here hs (.bl _))⟩
theorem okLt_ne {d e : D} (h : okLt d e = true) : alike d e = true ∧ d ≠ .none ∧ okEq d = true := by
  unfold okLt at h
  rw [Bool.and_eq_true, Bool.and_eq_true] at h
  refine ⟨h.1.1, fun z => ?_, h.2⟩
  subst z; exact absurd h.1.2 Bool.false_ne_true
theorem room_lt {A : Around} {d e : D} (h : okEq d = true) (hu : A.units + 66 < cLine) : A.units + min d.depth e.depth < cLine := SeqAt.room_of_shaped h (by omega)
theorem o_lt (hu : X.A.units + 66 < cLine) : OpR X (compareOp .Lt) (rOf X.K gLt) := by
  intro pins s σ H x y v u Q I rx ry ⟨Hz, d, e, b, hs, r1, r2, hg, q⟩
  unfold gLt at hg
  split at hg
  · rename_i h
    cases hg
    obtain ⟨k1, k2, k3⟩ := okLt_ne h.1
    obtain ⟨as, h1⟩ := rep_reads I hs r1 k3 rx
    obtain ⟨bs, h2⟩ := rep_reads I hs r2 h.2 ry
    exact PySem.W.lt_data h1 h2 k1 k2 (room_lt k3 hu) ⟨.bl _, H, I, rfl, q _ _ (.here hs (.bl _))⟩
  · cases hg
theorem o_gt (hu : X.A.units + 66 < cLine) : OpR X (compareOp .Gt) (rOf X.K gGt) := by
  intro pins s σ H x y v u Q I rx ry ⟨Hz, d, e, b, hs, r1, r2, hg, q⟩
  unfold gGt at hg
  split at hg
  · rename_i h
    cases hg
    obtain ⟨k1, k2, k3⟩ := okLt_ne h.1
    obtain ⟨as, h1⟩ := rep_reads I hs r1 k3 rx
    obtain ⟨bs, h2⟩ := rep_reads I hs r2 h.2 ry
    exact PySem.W.gt_data h1 h2 k1 k2 (room_lt k3 hu) ⟨.bl _, H, I, rfl, q _ _ (.here hs (.bl _))⟩
  · cases hg
theorem o_le (hu : X.A.units + 66 < cLine) : OpR X (compareOp .LtE) (rOf X.K gLe) := by
  intro pins s σ H x y v u Q I rx ry ⟨Hz, d, e, b, hs, r1, r2, hg, q⟩
  unfold gLe at hg
  split at hg
  · rename_i h
    cases hg
    obtain ⟨k1, k2, k3⟩ := okLt_ne h.1
    obtain ⟨as, h1⟩ := rep_reads I hs r1 k3 rx
    obtain ⟨bs, h2⟩ := rep_reads I hs r2 h.2 ry
    exact PySem.W.le_data h1 h2 k1 k2 (room_lt k3 hu) ⟨.bl _, H, I, rfl, q _ _ (.here hs (.bl _))⟩
  · cases hg
theorem o_ge (hu : X.A.units + 66 < cLine) : OpR X (compareOp .GtE) (rOf X.K gGe) := by
  intro pins s σ H x y v u Q I rx ry ⟨Hz, d, e, b, hs, r1, r2, hg, q⟩
  unfold gGe at hg
  split at hg
  · rename_i h
    cases hg
    obtain ⟨k1, k2, k3⟩ := okLt_ne h.1
    obtain ⟨as, h1⟩ := rep_reads I hs r1 k3 rx
    obtain ⟨bs, h2⟩ := rep_reads I hs r2 h.2 ry
    exact PySem.W.ge_data h1 h2 k1 k2 (room_lt k3 hu) ⟨.bl _, H, I, rfl, q _ _ (.here hs (.bl _))⟩
  · cases hg
theorem sign_of {y : Str} (h : isSign y = true) : y = ⟨#[y.cps.getD 0 0]⟩ := by
  unfold isSign at h
  have h' : y.cps.size = 1 := eq_of_beq h
  obtain ⟨c⟩ := y
  obtain ⟨l⟩ := c
  match l, h' with
  | [a], _ => rfl
theorem o_in (hu : X.A.units + 66 < cLine) : OpR X (compareOp .In) (rOf X.K gIn) := by
  intro pins s σ H x y v u Q I rx ry ⟨Hz, d, e, b, hs, r1, r2, hg, q⟩
  unfold gIn inD at hg
  cases e with
  | list ds =>
    by_cases h : okEq d = true ∧ okEq (.list ds) = true
    · simp only [h, and_self, if_true, Option.map_some, Option.some.injEq] at hg
      subst hg
      obtain ⟨as, h1⟩ := rep_reads I hs r1 h.1 rx
      obtain ⟨bs, h2⟩ := rep_reads I hs r2 h.2 ry
      exact SeqAt.in_list_reads h2 h1 (by simpa [PyData.canLay0] using SeqAt.canLay_of_shaped h.2) (SeqAt.canLay_of_shaped h.1) (room_in_shaped h.1 (by omega)) ⟨.bl _, H, I, rfl, q _ _ (.here hs (.bl _))⟩
    · simp only [h, if_false, Option.map_none] at hg; cases hg
  | tuple ds =>
    by_cases h : okEq d = true ∧ okEq (.tuple ds) = true
    · simp only [h, and_self, if_true, Option.map_some, Option.some.injEq] at hg
      subst hg
      obtain ⟨as, h1⟩ := rep_reads I hs r1 h.1 rx
      obtain ⟨bs, h2⟩ := rep_reads I hs r2 h.2 ry
      exact SeqAt.in_tuple_reads h2 h1 (by simpa [PyData.canLay0] using SeqAt.canLay_of_shaped h.2) (SeqAt.canLay_of_shaped h.1) (room_in_shaped h.1 (by omega)) ⟨.bl _, H, I, rfl, q _ _ (.here hs (.bl _))⟩
    · simp only [h, if_false, Option.map_none] at hg; cases hg
  | str z =>
    cases d with
    | str y' =>
      by_cases h : isSign y' = true
      · simp only [h, if_true, Option.map_some, Option.some.injEq] at hg
        subst hg
        have e1 := str_of r1
        have e2 := str_of r2
        subst e1 e2
        refine op_in_sign pins s σ H _ _ v u Q I rx ry ⟨y'.cps.getD 0 0, z, by rw [← sign_of h], rfl, q _ _ (.here hs (.bl _))⟩
      · simp only [h, if_false, Option.map_none] at hg; cases hg
    | _ => cases hg
  | _ => cases hg
theorem o_notIn (hu : X.A.units + 66 < cLine) : OpR X (compareOp .NotIn) (rOf X.K gNotIn) := by
  intro pins s σ H x y v u Q I rx ry ⟨Hz, d, e, b, hs, r1, r2, hg, q⟩
  unfold gNotIn inD at hg
  cases e with
  | list ds =>
    by_cases h : okEq d = true ∧ okEq (.list ds) = true
    · simp only [h, and_self, if_true, Option.map_some, Option.some.injEq] at hg
      subst hg
      obtain ⟨as, h1⟩ := rep_reads I hs r1 h.1 rx
      obtain ⟨bs, h2⟩ := rep_reads I hs r2 h.2 ry
      exact SeqAt.notIn_list_reads h2 h1 (by simpa [PyData.canLay0] using SeqAt.canLay_of_shaped h.2) (SeqAt.canLay_of_shaped h.1) (room_in_shaped h.1 (by omega)) ⟨.bl _, H, I, rfl, q _ _ (.here hs (.bl _))⟩
    · simp only [h, if_false, Option.map_none] at hg; cases hg
  | tuple ds =>
    by_cases h : okEq d = true ∧ okEq (.tuple ds) = true
    · simp only [h, and_self, if_true, Option.map_some, Option.some.injEq] at hg
      subst hg
      obtain ⟨as, h1⟩ := rep_reads I hs r1 h.1 rx
      obtain ⟨bs, h2⟩ := rep_reads I hs r2 h.2 ry
      exact SeqAt.notIn_tuple_reads h2 h1 (by simpa [PyData.canLay0] using SeqAt.canLay_of_shaped h.2) (SeqAt.canLay_of_shaped h.1) (room_in_shaped h.1 (by omega)) ⟨.bl _, H, I, rfl, q _ _ (.here hs (.bl _))⟩
    · simp only [h, if_false, Option.map_none] at hg; cases hg
  | str z =>
    cases d with
    | str y' =>
      by_cases h : isSign y' = true
      · simp only [h, if_true, Option.map_some, Option.some.injEq] at hg
        subst hg
        have e1 := str_of r1
        have e2 := str_of r2
        subst e1 e2
        refine op_notIn_sign pins s σ H _ _ v u Q I rx ry ⟨y'.cps.getD 0 0, z, by rw [← sign_of h], rfl, q _ _ (.here hs (.bl _))⟩
      · simp only [h, if_false, Option.map_none] at hg; cases hg
    | _ => cases hg
  | _ => cases hg
theorem rep_non {K : Fg} {Hz : Hp} {v : V} {d : D} (r : Rep K Hz v d) : decide (v = .non) = isNoneD d := by
  cases r <;> first | rfl | simp [isNoneD]
theorem o_is : OpR X (compareOp .Is) (rOf X.K gIs) := by
  intro pins s σ H x y v u Q I rx ry ⟨Hz, d, e, b, hs, r1, r2, hg, q⟩
  unfold gIs isD at hg
  cases e with
  | none =>
    simp only [Option.map_some, Option.some.injEq] at hg
    subst hg
    cases r2
    exact op_isN pins s σ H x .non v u Q I rx ry ⟨rfl, by rw [rep_non r1]; exact q _ _ (.here hs (.bl _))⟩
  | bool c =>
    cases d with
    | bool a =>
      simp only [Option.map_some, Option.some.injEq] at hg
      subst hg
      cases r1; cases r2
      exact op_isBl pins s σ H _ _ v u Q I rx ry ⟨a, c, rfl, rfl, q _ _ (.here hs (.bl _))⟩
    | _ => cases hg
  | _ => cases hg
theorem o_isNot : OpR X (compareOp .IsNot) (rOf X.K gIsNot) := by
  intro pins s σ H x y v u Q I rx ry ⟨Hz, d, e, b, hs, r1, r2, hg, q⟩
  unfold gIsNot isD at hg
  cases e with
  | none =>
    simp only [Option.map_some, Option.some.injEq] at hg
    subst hg
    cases r2
    exact op_notN pins s σ H x .non v u Q I rx ry ⟨rfl, by rw [rep_non r1]; exact q _ _ (.here hs (.bl _))⟩
  | bool c =>
    cases d with
    | bool a =>
      simp only [Option.map_some, Option.some.injEq] at hg
      subst hg
      cases r1; cases r2
      exact op_notBl pins s σ H _ _ v u Q I rx ry ⟨a, c, rfl, rfl, q _ _ (.here hs (.bl _))⟩
    | _ => cases hg
  | _ => cases hg
/-- a tracked list's object -/
theorem lst_obj {pins : List (Addr × Obj)} {σ : L2.St} {H : Hp} {s : Shared} {a : Addr} {xs : List V} (I : Inv X pins σ H s) (h : Rd H a (.lst xs)) :
    xs.length ≤ sizeLine ∧ ∃ (its : List Value) (n : Nat), Vals xs its ∧ s.heap.get? a = some { cls := .type "list", data := .seq its.toArray n } := h.ok I.hok
theorem o_add : OpR X (binaryOp .Add) (rOf X.K gAdd) := by
  intro pins s σ H x y v u Q I rx ry ⟨Hz, d, e, b, hs, r1, r2, hg, q⟩
  unfold gAdd at hg
  split at hg
  · rename_i i j
    cases hg
    have e1 := int_of r1
    have e2 := int_of r2
    subst e1 e2
    exact op_add pins s σ H _ _ v u Q I rx ry ⟨i, j, rfl, rfl, q _ _ (.here hs (.int _))⟩
  · rename_i i j
    cases hg
    cases r1
    have e2 := int_of r2
    subst e2
    cases rx
    obtain ⟨t, rfl⟩ := ry
    exact PySem.IntBool.add_bool_int ⟨.int _, H, I.tok _, ⟨_, rfl⟩, q _ _ (.here hs (.int _))⟩
  · rename_i a b
    split at hg
    · rename_i hl
      cases hg
      have e1 := str_of r1
      have e2 := str_of r2
      subst e1 e2
      exact op_add_str pins s σ H _ _ v u Q I rx ry ⟨a, b, rfl, rfl, hl, q _ _ (.here hs (.str _))⟩
    · cases hg
  · rename_i ds es
    split at hg
    · rename_i hl
      cases hg
      cases r1 with
      | @lst l xs _ h1 k1 =>
        cases r2 with
        | @lst l2 ys _ h2 k2 =>
          cases rx; cases ry
          obtain ⟨its, v1, p1, z1⟩ := I.list (sqL_same hs h1)
          obtain ⟨its2, v2, p2, z2⟩ := I.list (sqL_same hs h2)
          obtain ⟨⟨cls, dd, data, sl⟩, n, o1, hc, _, hd⟩ := p1
          obtain ⟨⟨cls2, dd2, data2, sl2⟩, n2, o2, hc2, _, hd2⟩ := p2
          simp only at hc hd hc2 hd2
          subst hc hd hc2 hd2
          have l1 := v1.length
          have l2 := v2.length
          have l3 := k1.length
          have l4 := k2.length
          refine concat_meets ⟨_, o1, rfl⟩ ⟨_, o2, rfl⟩ noFill_list_add seq_list_add PySem.F.slot_list_add PySem.F.entry_list_add (PySem.F.args_list_add_2 _ _) (list_addW _ _ its.toArray its2.toArray n n2 dd dd2 sl sl2 (by rw [List.size_toArray, List.size_toArray]; omega)) ⟨o1, o2, ?_⟩
          have ea : its.toArray ++ its2.toArray = (its ++ its2).toArray := by simp
          rw [ea]
          exact ⟨.ref _, _, I.lnew (t' := s.toks) (v1.append v2) (by rw [List.length_append]; omega), rfl, q _ _ (.lst hs I.fresh (k1.append k2))⟩
    · cases hg
  · rename_i ds es
    split at hg
    · rename_i hl
      cases hg
      cases r1 with
      | @tup l xs _ h1 k1 =>
        cases r2 with
        | @tup l2 ys _ h2 k2 =>
          have l3 := k1.length
          have l4 := k2.length
          refine op_catA pins s σ H _ _ v u Q I rx ry ⟨l, l2, xs, ys, rfl, rfl, seqT_same hs h1, seqT_same hs h2, by omega, fun e => ?_, fun e1 e2 => ?_, fun _ _ p hp => q _ _ (.tup hs hp (k1.append k2))⟩
          · subst e
            cases k1
            exact q _ _ (.here hs (.tup h2 k2))
          · subst e2
            cases k2
            exact q _ _ (.here hs (.tup h1 (by simpa using k1)))
    · cases hg
  · cases hg
theorem o_sub : OpR X (binaryOp .Sub) (rOf X.K gSub) := by
  intro pins s σ H x y v u Q I rx ry ⟨Hz, d, e, b, hs, r1, r2, hg, q⟩
  unfold gSub at hg
  split at hg
  · rename_i i j
    cases hg
    have e1 := int_of r1
    have e2 := int_of r2
    subst e1 e2
    exact op_sub pins s σ H _ _ v u Q I rx ry ⟨i, j, rfl, rfl, q _ _ (.here hs (.int _))⟩
  · rename_i i j
    cases hg
    cases r1
    have e2 := int_of r2
    subst e2
    cases rx
    obtain ⟨t, rfl⟩ := ry
    exact PySem.IntBool.sub_bool_int ⟨.int _, H, I.tok _, ⟨_, rfl⟩, q _ _ (.here hs (.int _))⟩
  · rename_i i j
    cases hg
    cases r2
    have e1 := int_of r1
    subst e1
    cases ry
    obtain ⟨t, rfl⟩ := rx
    exact PySem.IntBool.sub_int_bool ⟨.int _, H, I.tok _, ⟨_, rfl⟩, q _ _ (.here hs (.int _))⟩
  · cases hg
theorem o_fdiv : OpR X (binaryOp .FloorDiv) (rOf X.K gFdiv) := by
  intro pins s σ H x y v u Q I rx ry ⟨Hz, d, e, b, hs, r1, r2, hg, q⟩
  unfold gFdiv at hg
  split at hg
  · rename_i i j
    split at hg
    · rename_i hc
      cases hg
      have e1 := int_of r1
      have e2 := int_of r2
      subst e1 e2
      exact op_fdivW pins s σ H _ _ v u Q I rx ry ⟨i, j, rfl, rfl, hc, q _ _ (.here hs (.int _))⟩
    · cases hg
  · cases hg
theorem o_mod : OpR X (binaryOp .Mod) (rOf X.K gMod) := by
  intro pins s σ H x y v u Q I rx ry ⟨Hz, d, e, b, hs, r1, r2, hg, q⟩
  unfold gMod at hg
  split at hg
  · rename_i i j
    split at hg
    · rename_i hc
      cases hg
      have e1 := int_of r1
      have e2 := int_of r2
      subst e1 e2
      exact op_mod pins s σ H _ _ v u Q I rx ry ⟨i, j, rfl, rfl, hc, q _ _ (.here hs (.int _))⟩
    · cases hg
  · cases hg
theorem o_pow : OpR X (binaryOp .Pow) (rOf X.K gPow) := by
  intro pins s σ H x y v u Q I rx ry ⟨Hz, d, e, b, hs, r1, r2, hg, q⟩
  unfold gPow at hg
  split at hg
  · rename_i i j
    split at hg
    · rename_i hc
      cases hg
      have e1 := int_of r1
      have e2 := int_of r2
      subst e1 e2
      obtain ⟨t, rfl⟩ := rx
      obtain ⟨t', rfl⟩ := ry
      exact PyProof.Rows.pow_int hc.1 hc.2 ⟨.int _, H, I.tok _, ⟨_, rfl⟩, q _ _ (.here hs (.int _))⟩
    · cases hg
  · cases hg
theorem foldl_app (x : List Nat) : ∀ (n : Nat) (acc : Array Nat), (List.replicate n x.toArray).foldl (· ++ ·) acc = acc ++ ((List.replicate n x).flatten).toArray
  | 0, acc => by simp
  | n + 1, acc => by
    rw [List.replicate_succ, List.foldl_cons, foldl_app x n, List.replicate_succ, List.flatten_cons]
    apply Array.ext'
    simp
theorem o_mul : OpR X (binaryOp .Mult) (rOf X.K gMul) := by
  intro pins s σ H x y v u Q I rx ry ⟨Hz, d, e, b, hs, r1, r2, hg, q⟩
  unfold gMul at hg
  split at hg
  · rename_i i j
    split at hg
    · rename_i hc
      cases hg
      have e1 := int_of r1
      have e2 := int_of r2
      subst e1 e2
      exact op_mulW pins s σ H _ _ v u Q I rx ry ⟨i, j, rfl, rfl, hc, q _ _ (.here hs (.int _))⟩
    · cases hg
  · rename_i z n
    have e1 := str_of r1
    have e2 := int_of r2
    subst e1 e2
    obtain ⟨t, rfl⟩ := rx
    obtain ⟨t', rfl⟩ := ry
    have hline : (sizeLine : Nat) = 16777216 := sizeLine_eq
    by_cases h1 : 2 ≤ n ∧ n ≤ 1000 ∧ 0 < z.length ∧ z.length ≤ 1000
    · rw [if_pos h1] at hg
      cases hg
      obtain ⟨a1, a2, a3, a4⟩ := h1
      have hb : (n == 1 || z.length == 0) = false := by
        rw [Bool.or_eq_false_iff]
        exact ⟨beq_eq_false_iff_ne.mpr (by omega), beq_eq_false_iff_ne.mpr (by omega)⟩
      have hm : z.length * n.toNat ≤ 1000 * 1000 := Nat.mul_le_mul a4 (by omega)
      have ht : Builtin.Str.tooLong (z.length * n.toNat) = false := by
        unfold Builtin.Str.tooLong
        simp only [decide_eq_false_iff_not]
        omega
      refine PySem.P.mul_str (by rw [Bool.or_eq_false_iff]; exact ⟨decide_eq_false (by omega), decide_eq_false (by omega)⟩) (fun _ _ => ?_) (fun _ _ => ht) ?_
      · have : (1000 : Int) ≤ (2 ^ 63 - 1) / n := by
          apply Int.le_ediv_of_mul_le (by omega)
          omega
        omega
      · rw [if_neg (by omega), hb, if_neg Bool.false_ne_true]
        have ef : List.foldl (fun x1 x2 => x1 ++ x2) #[] (List.replicate n.toNat z.cps) = (strMul z n).cps := by
          have := foldl_app z.cps.toList n.toNat #[]
          rw [Array.toArray_toList] at this
          rw [this]
          simp [strMul]
        rw [ef]
        have hlen : (strMul z n).length = z.length * n.toNat := by
          show (strMul z n).cps.size = z.cps.size * n.toNat
          unfold strMul
          rw [List.size_toArray, List.length_flatten, List.map_replicate, List.sum_replicate_nat, Array.length_toList, Nat.mul_comm]
        exact ⟨by show (strMul z n).length ≤ _; rw [hlen]; omega, .str (strMul z n), H, I.tok _, ⟨_, rfl⟩, q _ _ (.here hs (.str _))⟩
    · rw [if_neg h1] at hg
      split at hg
      · rename_i h2
        cases hg
        obtain ⟨a1, a2, a3⟩ := h2
        have hb : (n == 1 || z.length == 0) = true := by rw [a3]; simp
        refine PySem.P.mul_str (by rw [Bool.or_eq_false_iff]; exact ⟨decide_eq_false (by omega), decide_eq_false (by omega)⟩) (fun _ h => ?_) (fun _ h => ?_) ?_
        · rw [hb] at h; cases h
        · rw [hb] at h; cases h
        · rw [if_neg (by omega), if_pos hb]
          exact ⟨.str z, H, I, ⟨_, rfl⟩, q _ _ (.here hs (.str _))⟩
      · cases hg
  · cases hg
end
end FK
set_option Elab.async false
set_option linter.all false
set_option maxRecDepth 100000
/-! FK 12: built-in functions and methods on data. -/
namespace HT
open PySem PySem.Spec PyProof.Rows L2
section
variable {prog : Program} {w : World} {A : Around} {E : Value → Shared → Prop} {s : Shared}
theorem sliceApplied_rev {sl : Addr} {vl vu vs : Value} {n : Nat} {Q : Int × Int × Nat → Shared → Prop} (hs : s.heap.IsSliceOf sl vl vu vs) (pl : IsPart vl none) (pu : IsPart vu none) (ps : IsPart vs (some (-1)))
    (h : Q ((n : Int) - 1, -1, n) s) : wpAny (model prog w) A (Builtin.Slice.sliceApplied (.ref sl) (pure (n : Int))) Q E s := by
  obtain ⟨os, hos, hcs, hds⟩ := id hs
  unfold Builtin.Slice.sliceApplied Builtin.Slice.sliceFields
  refine wpAny_bind (wpAny_bind (wpAny_field hos hds (x := vl) rfl (wpAny_bind (wpAny_field hos hds (x := vu) rfl (wpAny_bind (wpAny_field hos hds (x := vs) rfl (wpAny_pure ?_)))))))
  refine wpAny_bind (slicePart_ ps ?_)
  show wpAny _ _ (if ((-1 : Int) == 0) = true then _ else _) _ _ s
  rw [if_neg (by decide)]
  refine wpAny_bind (slicePart_ pl (wpAny_bind (slicePart_ pu (wpAny_bind (wpAny_pure ?_)))))
  show wpAny _ _ (pure ((n : Int) - 1, (-1 : Int), Builtin.Slice.slicePlaces ((n : Int) - 1) (-1) (-1))) _ _ s
  have e : Builtin.Slice.slicePlaces ((n : Int) - 1) (-1) (-1) = n := by
    unfold Builtin.Slice.slicePlaces
    have h1 : ¬ (-1 : Int) > 0 := by omega
    simp only [h1, if_false, Int.neg_neg, Int.ediv_one]
    split <;> omega
  rw [e]
  exact wpAny_pure h
theorem pick_rev (xs : Array Value) : ((List.range xs.size).filterMap fun (m : Nat) => xs[((xs.size : Int) - 1 + (m : Int) * (-1)).toNat]?).toArray = xs.toList.reverse.toArray := by
  congr 1
  have e1 : (List.range xs.size).filterMap (fun (m : Nat) => xs[((xs.size : Int) - 1 + (m : Int) * (-1)).toNat]?) = (List.range xs.size).filterMap (fun m => xs[xs.size - 1 - m]?) := by
    congr 1
    funext m
    have : ((xs.size : Int) - 1 + (m : Int) * (-1)).toNat = xs.size - 1 - m := by omega
    rw [this]
  rw [e1]
  have e2 := PySem.W.krv_range xs.size
  have e3 := PySem.W.krv_all xs
  have : (List.range xs.size).filterMap (fun m => xs[xs.size - 1 - m]?) = ((List.range xs.size).map fun m => xs.size - 1 - m).filterMap (xs[·]?) := by
    rw [List.filterMap_map]; rfl
  rw [this, e2, List.filterMap_reverse, e3]
theorem getItem_tuple_rev {t sl : Addr} {items : Array Value} {vl vu vs : Value} {Q : Value → Shared → Prop} (ht : IsTup s.heap t items) (hs : s.heap.IsSliceOf sl vl vu vs) (pl : IsPart vl none) (pu : IsPart vu none) (ps : IsPart vs (some (-1)))
    (h : Q (.ref s.heap.objs.size) { s with heap := s.heap.push { cls := .type "tuple", data := .seq items.toList.reverse.toArray } })
    (hsz : items.size ≤ sizeLine) : wpAny (model prog w) A (getItem (.ref t) (.ref sl)) Q E s := by
  have htake : sizeOk (.seq items.toList.reverse.toArray) := by
    show items.toList.reverse.toArray.size ≤ sizeLine
    rw [List.size_toArray, List.length_reverse, Array.length_toList]
    exact hsz
  obtain ⟨os, hos, hcs, hds⟩ := id hs
  have hTs : s.TypeIs (.ref sl) "slice" := ⟨os, hos, hcs⟩
  unfold getItem
  try with_reducible refine wpAny_holding ?_
  first | refine wpAny_bind (wpAny_pure ?_) | skip
  refine wpAny_bind (wpAny_sequenceKey ht.typeIs (by decide) ?_)
  refine wpAny_bind (wpAny_callSpecial?_slot (name := Str.ofString "__getitem__") ht.typeIs PyProof.Rows.slot_tuple_getitem
    (wpAny_call_entry PyProof.Rows.slot_tuple_getitem ht.typeIs entry_tuple_getitem ?_ (args_tuple_getitem _ _)))
  show wpAny _ _ (Builtin.Tuple.tupleItemsOf (.ref t) >>= _) _ _ s
  refine wpAny_bind (tupleItemsOf_ ht ?_)
  refine wpAny_bind (wpAny_typeOf hTs ?_)
  rw [if_pos (by decide)]
  refine wpAny_bind (sliceApplied_rev hs pl pu ps ?_)
  have hno : ¬ ((((items.size : Int) - 1) == 0 && (-1 : Int) == 1 && items.size == items.size) = true) := by
    intro q
    rw [Bool.and_eq_true, Bool.and_eq_true] at q
    exact absurd q.1.2 (by decide)
  show wpAny _ _ (if (((items.size : Int) - 1) == 0 && (-1 : Int) == 1 && items.size == items.size) = true then _ else _) _ _ s
  rw [if_neg hno, pick_rev]
  first
    | exact wpAny_bind (m := Builtin.Tuple.tupleExact _) (wpAny_newObj_type (wpAny_pure ⟨_, rfl, wpAny_pure h⟩) htake)
    | exact wpAny_bind (m := Builtin.Tuple.tupleExact _) (wpAny_newObj_type (wpAny_bind (wpAny_pure (wpAny_pure ⟨_, rfl, wpAny_pure h⟩))) htake)
    | exact wpAny_bind (wpAny_bind (m := Builtin.Tuple.tupleExact _) (wpAny_newObj_type (wpAny_pure (wpAny_pure ⟨_, rfl, wpAny_pure h⟩)) htake))
    | exact wpAny_bind (wpAny_bind (m := Builtin.Tuple.tupleExact _) (wpAny_newObj_type (wpAny_pure ⟨_, rfl, wpAny_pure h⟩) htake))
end
end HT
namespace FK
open PySem PySem.Spec PyProof.Rows L2
open PySem.W (alike dataLt AllAlike Sortable dataLe EachIs)
/-! ### subscripts -/
def gIx (x k : D) : Option B := match x, k with
  | .list ds, .int i => (atI ds i).map .fr
  | .tuple ds, .int i => (atI ds i).map .fr
  | .str z, .int i => if z.length ≤ sizeLine then (atI z.cps.toList i).map fun c => .fr (.str ⟨#[c]⟩) else none
  | _, _ => none
def cutD {α : Type} (xs : List α) (lo hi : Option Int) : List α := (xs.drop (HT.sIx xs.length 0 lo)).take (HT.sIx xs.length xs.length hi - HT.sIx xs.length 0 lo)
def gSl (x : D) (lo hi : Option Int) : Option B := match x with
  | .list ds => some (.ow (.list (cutD ds lo hi)))
  | .tuple ds => some (.fr (.tuple (cutD ds lo hi)))
  | .str z => if z.length ≤ sizeLine then some (.fr (.str (cutS z lo hi))) else none
  | _ => none
def gRev (x : D) : Option B := match x with
  | .list ds => some (.ow (.list ds.reverse))
  | .tuple ds => some (.fr (.tuple ds.reverse))
  | _ => none
abbrev SP := Env → Rs (Option Int)
def pNone : SP := fun ρ => .ok none ρ
def intOf : D → Option Int
  | .int i => some i
  | _ => none
def pSome (f : SE) : SP := fun ρ => (f ρ).frd fun d ρ1 => (lft (intOf d) ρ1).bnd fun i ρ2 => .ok (some i) ρ2
def sSl (f : SE) (lo hi : SP) : SE := fun ρ => (f ρ).frd fun x ρ1 => (lo ρ1).bnd fun l ρ2 => (hi ρ2).bnd fun u ρ3 => lft (gSl x l u) ρ3
def PO_ : Option Int → Option Int → Hp → Hp → Hp → (Nat → List Addr) → Prop := fun o y _ _ _ _ => o = y
def tPo (T : Tx) (W : WX) (f : SP) : TO := fun σ H Q => ∃ Hz ρ F, Zone T.K Hz H σ ρ F ∧ Aft T W Hz H F σ PO_ (f ρ) Q
theorem atI_rep {K : Fg} {Hz : Hp} {vs : List V} {ds : List D} {i : Int} {d : D} (r : RepL K Hz vs ds) (h : atI ds i = some d) : ∃ v, atI vs i = some v ∧ Rep K Hz v d := by
  unfold atI at h ⊢
  rw [r.length]
  cases e : ixN ds.length i with
  | none => rw [e] at h; cases h
  | some j =>
    rw [e] at h
    obtain ⟨v, h1, h2⟩ := r.get' (i := j) (d := d) h
    exact ⟨v, h1, h2⟩
section
variable {X : Cx} {T : Tx} {W : WX} {a b e : Expr} {fa fb : SE} {lo hi : Option Expr} {fl fh : SP} {pos p2 : Pos}
theorem i_ix : IxR X (rOf X.K gIx) := by
  intro value slice pins s σ H x y v u Q I rx ry ⟨Hz, d, e, b, hs, r1, r2, hg, q⟩ hsl
  unfold gIx at hg
  split at hg
  · rename_i ds i
    cases ha : atI ds i with
    | none => rw [ha] at hg; cases hg
    | some d =>
      rw [ha] at hg; cases hg
      cases r1 with
      | lst h1 k1 =>
        obtain ⟨z, hz1, hz2⟩ := atI_rep k1 ha
        exact ix_list value slice pins s σ H _ y v u Q I rx ry ⟨_, _, i, z, rfl, int_of r2, sqL_same hs h1, hz1, q _ _ (.here hs hz2)⟩ hsl
  · rename_i ds i
    cases ha : atI ds i with
    | none => rw [ha] at hg; cases hg
    | some d =>
      rw [ha] at hg; cases hg
      cases r1 with
      | tup h1 k1 =>
        obtain ⟨z, hz1, hz2⟩ := atI_rep k1 ha
        exact ix_tup value slice pins s σ H _ y v u Q I rx ry ⟨_, _, i, z, rfl, int_of r2, seqT_same hs h1, hz1, q _ _ (.here hs hz2)⟩ hsl
  · rename_i z i
    split at hg
    · rename_i hl
      cases ha : atI z.cps.toList i with
      | none => rw [ha] at hg; cases hg
      | some c =>
        rw [ha] at hg; cases hg
        exact ix_str value slice pins s σ H x y v u Q I rx ry ⟨z, i, c, str_of r1, int_of r2, hl, ha, q _ _ (.here hs (.str _))⟩ hsl
    · cases hg
  · cases hg
theorem e_ix (hK : X.K = T.K) (ha : PE X a (tE T W fa)) (hb : PE X b (tE T W fb)) (hs : PlainIx b) : PE X (.Subscript a b pos) (tE T W (sBin gIx fa fb)) :=
  PE.mono (pe_ix (by rw [← hK]; exact i_ix) ha hb hs) fun _ _ _ h => two h
theorem p_none : PO X none (tPo T W pNone) := ⟨fun pins s σ H Q I ⟨Hz, ρ, F, z, h⟩ => po_none.run pins s σ H Q I (h none Hz H F z .refl rfl)⟩
theorem p_some (he : PE X e (tE T W fa)) : PO X (some e) (tPo T W (pSome fa)) := by
  refine ⟨fun pins s σ H Q I ⟨Hz, ρ, F, z, h⟩ => (po_some he).run pins s σ H Q I ?_⟩
  refine ⟨Hz, ρ, F, z, Aft.imp (Aft.frd h) fun v H1 ⟨Hz1, F1, d, ρ1, z1, s1, r1, q1⟩ => ?_⟩
  have q1' : Aft T W Hz1 H1 F1 σ PO_ _ Q := q1.from s1 fun _ _ _ _ _ p => p
  cases hd : intOf d with
  | none => rw [hd] at q1'; cases q1'
  | some i =>
    rw [hd] at q1'
    have ed : d = .int i := by cases d <;> simp [intOf] at hd; rw [hd]
    subst ed
    exact ⟨i, int_of r1, q1' (some i) Hz1 H1 F1 z1 .refl rfl⟩
theorem cut_rep {K : Fg} {Hz : Hp} {vs : List V} {ds : List D} {l u : Option Int} (r : RepL K Hz vs ds) : RepL K Hz (cutV vs l u) (cutD ds l u) := by
  unfold cutV cutD
  rw [r.length]
  exact (r.drop _).take _
theorem cut_whole {α : Type} {xs : List α} {l u : Option Int} (h : HT.sIx xs.length 0 l = 0 ∧ HT.sIx xs.length xs.length u = xs.length) : cutD xs l u = xs := by
  unfold cutD; rw [h.1, h.2]; simp
theorem e_sl (hK : X.K = T.K) (he : PE X e (tE T W fa)) (hl : PO X lo (tPo T W fl)) (hh : PO X hi (tPo T W fh)) : PE X (.Subscript e (.Slice lo hi none p2) pos) (tE T W (sSl fa fl fh)) := by
  refine PE.mono (pe_slice (sl_list.or (sl_tupA.or sl_str)) he hl hh) fun σ H Q ⟨Hz, ρ, F, z, h⟩ => ?_
  refine ⟨Hz, ρ, F, z, Aft.imp (Aft.frd h) fun v H1 ⟨Hz1, F1, d, ρ1, z1, s1, r1, q1⟩ => ?_⟩
  refine ⟨Hz1, ρ1, F1, z1, Aft.imp (Aft.bnd (P := PO_) (q1.fromB s1)) fun l H2 ⟨Hz2, F2, l', ρ2, z2, s2, e2, q2⟩ => ?_⟩
  cases e2
  refine ⟨Hz2, ρ2, F2, z2, Aft.imp (Aft.bnd (P := PO_) (q2.fromB s2)) fun u H3 ⟨Hz3, F3, u', ρ3, z3, s3, e3, q3⟩ => ?_⟩
  cases e3
  have q4 := q3.fromB s3
  have r3 := r1.mono (s2.z.trans s3.z)
  rw [hK]
  cases hg : gSl d l u with
  | none => rw [hg] at q4; cases q4
  | some b =>
    rw [hg] at q4
    unfold gSl at hg
    split at hg
    · cases hg
      cases r3 with
      | lst h1 k1 => exact .inl ⟨_, _, rfl, sqL_same z3.sub h1, fun p hp => q4.made z3 (.lst z3.sub hp (cut_rep k1))⟩
    · cases hg
      cases r3 with
      | @tup t xs _ h1 k1 =>
        refine .inr (.inl ⟨_, _, rfl, seqT_same z3.sub h1, fun hw => ?_, fun _ p hp => q4.made z3 (.tup z3.sub hp (cut_rep k1))⟩)
        rw [k1.length] at hw
        rw [cut_whole hw] at q4
        exact q4.fin z3 (.tup h1 k1)
    · split at hg
      · rename_i hl
        cases hg
        exact .inr (.inr ⟨_, str_of r3, hl, q4.fin z3 (.str _)⟩)
      · cases hg
    · cases hg
/-- e[::-1] of a list or a tuple -/
theorem pe_revA {e : Expr} {te : TE} {k : Nat} {p1 p2 p3 pos : Pos} (he : PE X e te) : PE X (.Subscript e (.Slice none none (some (.UnaryOp .USub (.Constant (.int 1) k p1) p2)) p3) pos)
    (fun σ H Q => te σ H fun x H1 => ∃ a xs, x = .ref a ∧ ((SqL X.K H1 a xs ∧ ∀ p, H1 p = none → Q (.ref p) (upd H1 p (.lst xs.reverse))) ∨ (SqT X.K H1 a xs ∧ ∀ p, H1 p = none → Q (.ref p) (upd H1 p (.tup xs.reverse))))) := by
  refine ⟨fun pins s σ H Q I h => ?_⟩
  refine Subscript_ (thn (he.run pins s σ H _ I h) fun v s1 ⟨x, H1, I1, r1, q1⟩ => ?_)
  obtain ⟨a, xs, ex, q⟩ := q1
  subst ex
  cases r1
  have hst : PO X (some (.UnaryOp .USub (.Constant (.int 1) k p1) p2)) (tPart (tUn (rU fun i => .int (-i)) (tC (.int 1)))) := po_some (pe_un un_neg pe_int)
  refine wpAny_Slice (thn (po_none.run pins s1 σ H1 (fun o H2 => o = none ∧ H2 = H1) I1 ⟨rfl, rfl⟩) fun vl s2 ⟨l, H2, I2, pl, el, e2⟩ => ?_)
  subst el e2
  refine thn (po_none.run pins s2 σ H2 (fun o H3 => o = none ∧ H3 = H2) I2 ⟨rfl, rfl⟩) fun vu s3 ⟨u, H3, I3, pu, eu, e3⟩ => ?_
  subst eu e3
  refine thn (hst.run pins s3 σ H3 (fun o H4 => o = some (-1) ∧ H4 = H3) I3 ⟨1, rfl, -1, rfl, rfl, rfl⟩) fun vs s4 ⟨o, H4, I4, ps, eo, e4⟩ => ?_
  subst eo e4
  have I5 : Inv X pins σ H4 { s4 with heap := s4.heap.push { cls := .type "slice", data := .fields #[vl, vu, vs] } } := I4.kept (t' := s4.toks) fun b ob q => Heap.get?_push_of_some _ q
  show wpAny (model X.prog X.w) X.A (subscriptTail e (.Slice none none (some (.UnaryOp .USub (.Constant (.int 1) k p1) p2)) p3) (.ref a) (.ref s4.heap.objs.size)) (EP X pins σ Q) X.xe { s4 with heap := s4.heap.push { cls := .type "slice", data := .fields #[vl, vu, vs] } }
  rcases q with ⟨hx, q⟩ | ⟨hx, q⟩
  · obtain ⟨its, r, ht, hz⟩ := I5.list hx
    have hlen := r.length
    refine tail_any (ops := [.ref a, .ref s4.heap.objs.size]) ht.isList.typeIs (PySem.slot_list_getitem.lookup) ?_ (by with_unfolding_all rfl)
    refine wpAny_getItem_list_slice ht.isList (Heap.IsSliceOf.new _ vl vu vs) pl pu ps (by decide) ?_ (by rw [List.size_toArray]; omega)
    rw [PySem.W.krv_pick]
    refine ⟨.ref _, _, I5.laid (t' := s4.toks) (o := .lst xs.reverse) (fun b ob q => Heap.get?_push_of_some _ q) (Nat.le_refl _) ?_, rfl, q _ (I5.hok.fresh (Nat.le_refl _))⟩
    exact ⟨by rw [List.length_reverse]; exact hz, _, 0, r.reverse, Heap.get?_push_size _ rfl⟩
  · obtain ⟨its, r, ht, hz⟩ := I5.tuple hx
    have hlen := r.length
    refine tail_any (ops := [.ref a, .ref s4.heap.objs.size]) ht.typeIs (PyProof.Rows.slot_tuple_getitem.lookup) ?_ (by with_unfolding_all rfl)
    refine HT.getItem_tuple_rev ht (Heap.IsSliceOf.new _ vl vu vs) pl pu ps ?_ (by rw [List.size_toArray]; omega)
    refine ⟨.ref _, _, I5.laid (t' := s4.toks) (o := .tup xs.reverse) (fun b ob q => Heap.get?_push_of_some _ q) (Nat.le_refl _) ?_, rfl, q _ (I5.hok.fresh (Nat.le_refl _))⟩
    exact ⟨by rw [List.length_reverse]; exact hz, _, r.reverse, _, Heap.get?_push_size _ rfl, rfl, _, rfl⟩
theorem e_rev (hK : X.K = T.K) {k : Nat} {p1 p2 p3 pos : Pos} (he : PE X e (tE T W fa)) : PE X (.Subscript e (.Slice none none (some (.UnaryOp .USub (.Constant (.int 1) k p1) p2)) p3) pos) (tE T W (sUn gRev fa)) := by
  refine PE.mono (pe_revA he) fun σ H Q ⟨Hz, ρ, F, z, h⟩ => ?_
  refine ⟨Hz, ρ, F, z, Aft.imp (Aft.frd h) fun v H1 ⟨Hz1, F1, d, ρ1, z1, s1, r1, q1⟩ => ?_⟩
  have q4 := q1.fromB s1
  rw [hK]
  cases hg : gRev d with
  | none => rw [hg] at q4; cases q4
  | some b =>
    rw [hg] at q4
    unfold gRev at hg
    split at hg
    · cases hg
      cases r1 with
      | lst h1 k1 => exact ⟨_, _, rfl, .inl ⟨sqL_same z1.sub h1, fun p hp => q4.made z1 (.lst z1.sub hp k1.reverse)⟩⟩
    · cases hg
      cases r1 with
      | tup h1 k1 => exact ⟨_, _, rfl, .inr ⟨seqT_same z1.sub h1, fun p hp => q4.made z1 (.tup z1.sub hp k1.reverse)⟩⟩
    · cases hg
end
/-! ### built-in functions -/
def gLen : List D → Option B
  | [.str z] => if z.length ≤ sizeLine then some (.fr (.int z.length)) else none
  | [.list ds] => some (.fr (.int ds.length))
  | [.tuple ds] => some (.fr (.int ds.length))
  | _ => none
def gMax : List D → Option B
  | [.int i, .int j] => some (.fr (.int (if j > i then j else i)))
  | _ => none
def gMin : List D → Option B
  | [.int i, .int j] => some (.fr (.int (if j < i then j else i)))
  | _ => none
def boolsOf : List D → Option (List Bool)
  | [] => some []
  | .bool b :: r => (boolsOf r).map (b :: ·)
  | _ => none
def strsOf : List D → Option (List Str)
  | [] => some []
  | .str b :: r => (strsOf r).map (b :: ·)
  | _ => none
theorem boolsOf_some : ∀ {ds : List D} {bs : List Bool}, boolsOf ds = some bs → ds = bs.map PyData.bool
  | [], bs, h => by cases h; rfl
  | .bool b :: r, bs, h => by
    unfold boolsOf at h
    cases e : boolsOf r with
    | none => rw [e] at h; cases h
    | some cs => rw [e] at h; cases h; rw [List.map_cons, boolsOf_some e]
  | .none :: _, _, h => by cases h
  | .int _ :: _, _, h => by cases h
  | .str _ :: _, _, h => by cases h
  | .list _ :: _, _, h => by cases h
  | .tuple _ :: _, _, h => by cases h
  | .dict _ :: _, _, h => by cases h
theorem strsOf_some : ∀ {ds : List D} {bs : List Str}, strsOf ds = some bs → ds = bs.map PyData.str
  | [], bs, h => by cases h; rfl
  | .str b :: r, bs, h => by
    unfold strsOf at h
    cases e : strsOf r with
    | none => rw [e] at h; cases h
    | some cs => rw [e] at h; cases h; rw [List.map_cons, strsOf_some e]
  | .none :: _, _, h => by cases h
  | .int _ :: _, _, h => by cases h
  | .bool _ :: _, _, h => by cases h
  | .list _ :: _, _, h => by cases h
  | .tuple _ :: _, _, h => by cases h
  | .dict _ :: _, _, h => by cases h
def gAll : List D → Option B
  | [.list ds] => (boolsOf ds).map fun bs => .fr (.bool (bs.all id))
  | _ => none
def gAny : List D → Option B
  | [.list ds] => (boolsOf ds).map fun bs => .fr (.bool (bs.any id))
  | _ => none
def gListOf : List D → Option B
  | [.list ds] => some (.ow (.list ds))
  | [.tuple ds] => some (.ow (.list ds))
  | _ => none
def gTupleOf : List D → Option B
  | [.list ds] => some (.fr (.tuple ds))
  | [.tuple ds] => some (.fr (.tuple ds))
  | _ => none
def gStr : List D → Option B
  | [.int i] => if i.natAbs.log2 < 1920 then some (.fr (.str (toString i))) else none
  | [.bool b] => some (.fr (.str (if b then "True" else "False")))
  | [.str x] => some (.fr (.str x))
  | _ => none
def gInt : List D → Option B
  | [.int i] => some (.fr (.int i))
  | [.bool b] => some (.fr (.int (if b then 1 else 0)))
  | _ => none
open Classical in
noncomputable def gSorted : List D → Option B
  | [.list ds] => if AllAlike ds ∧ Sortable ds ∧ (∀ d ∈ ds, okEq d = true) ∧ ds.length ≤ sizeLine then some (.ow (.list (ds.mergeSort (dataLe false id)))) else none
  | _ => none
section
variable {X : Cx}
theorem RepL.one {K : Fg} {Hz : Hp} {xs : List V} {d : D} (r : RepL K Hz xs [d]) : ∃ x, xs = [x] ∧ Rep K Hz x d := by
  cases r with
  | cons h t => cases t; exact ⟨_, rfl, h⟩
theorem RepL.two {K : Fg} {Hz : Hp} {xs : List V} {d e : D} (r : RepL K Hz xs [d, e]) : ∃ x y, xs = [x, y] ∧ Rep K Hz x d ∧ Rep K Hz y e := by
  cases r with
  | cons h t =>
    obtain ⟨y, rfl, h2⟩ := t.one
    exact ⟨_, _, rfl, h, h2⟩
theorem c_len : CallR X (.builtin "len") (rOfN X.K gLen) := by
  intro pins s σ H xs us Q I r ⟨Hz, ds, b, hs, rr, hg, q⟩
  unfold gLen at hg
  split at hg
  · rename_i z
    split at hg
    · rename_i hl
      cases hg
      obtain ⟨x, rfl, h1⟩ := rr.one
      exact call_len pins s σ H _ us Q I r ⟨x, z.length, rfl, by rw [str_of h1]; exact ⟨hl, rfl⟩, q _ _ (.here hs (.int _))⟩
    · cases hg
  · cases hg
    obtain ⟨x, rfl, h1⟩ := rr.one
    cases h1 with
    | lst h k => exact call_len pins s σ H _ us Q I r ⟨_, _, rfl, .inl ⟨_, sqL_same hs h, by rw [k.length]⟩, q _ _ (.here hs (.int _))⟩
  · cases hg
    obtain ⟨x, rfl, h1⟩ := rr.one
    cases h1 with
    | tup h k => exact call_len pins s σ H _ us Q I r ⟨_, _, rfl, .inr ⟨_, seqT_same hs h, by rw [k.length]⟩, q _ _ (.here hs (.int _))⟩
  · cases hg
theorem c_max (hc : X.calm = true) : CallR X (.builtin "max") (rOfN X.K gMax) := by
  intro pins s σ H xs us Q I r ⟨Hz, ds, b, hs, rr, hg, q⟩
  unfold gMax at hg
  split at hg
  · cases hg
    obtain ⟨x, y, rfl, h1, h2⟩ := rr.two
    exact call_max2 hc pins s σ H _ us Q I r ⟨_, _, by rw [int_of h1, int_of h2], q _ _ (.here hs (.int _))⟩
  · cases hg
theorem c_min (hc : X.calm = true) : CallR X (.builtin "min") (rOfN X.K gMin) := by
  intro pins s σ H xs us Q I r ⟨Hz, ds, b, hs, rr, hg, q⟩
  unfold gMin at hg
  split at hg
  · cases hg
    obtain ⟨x, y, rfl, h1, h2⟩ := rr.two
    exact call_min2 hc pins s σ H _ us Q I r ⟨_, _, by rw [int_of h1, int_of h2], q _ _ (.here hs (.int _))⟩
  · cases hg
theorem c_all (hc : X.calm = true) : CallR X (.builtin "all") (rOfN X.K gAll) := by
  intro pins s σ H xs us Q I r ⟨Hz, ds, b, hs, rr, hg, q⟩
  unfold gAll at hg
  split at hg
  · rename_i es
    cases e : boolsOf es with
    | none => rw [e] at hg; cases hg
    | some bs =>
      rw [e] at hg; cases hg
      obtain ⟨x, rfl, h1⟩ := rr.one
      cases h1 with
      | lst h k =>
        rw [boolsOf_some e] at k
        rw [RepL.of_bls k] at h
        exact cr_all hc pins s σ H _ us Q I r ⟨_, bs, rfl, sqL_same hs h, q _ _ (.here hs (.bl _))⟩
  · cases hg
theorem c_any (hc : X.calm = true) : CallR X (.builtin "any") (rOfN X.K gAny) := by
  intro pins s σ H xs us Q I r ⟨Hz, ds, b, hs, rr, hg, q⟩
  unfold gAny at hg
  split at hg
  · rename_i es
    cases e : boolsOf es with
    | none => rw [e] at hg; cases hg
    | some bs =>
      rw [e] at hg; cases hg
      obtain ⟨x, rfl, h1⟩ := rr.one
      cases h1 with
      | lst h k =>
        rw [boolsOf_some e] at k
        rw [RepL.of_bls k] at h
        exact cr_any hc pins s σ H _ us Q I r ⟨_, bs, rfl, sqL_same hs h, q _ _ (.here hs (.bl _))⟩
  · cases hg
theorem c_list : CallR X (.type "list") (rOfN X.K gListOf) := by
  intro pins s σ H xs us Q I r ⟨Hz, ds, b, hs, rr, hg, q⟩
  unfold gListOf at hg
  split at hg
  · cases hg
    obtain ⟨x, rfl, h1⟩ := rr.one
    cases h1 with
    | lst h k => exact call_list_of pins s σ H _ us Q I r ⟨_, _, rfl, .inl (sqL_same hs h), fun l hl => q _ _ (.lst hs hl k)⟩
  · cases hg
    obtain ⟨x, rfl, h1⟩ := rr.one
    cases h1 with
    | tup h k => exact call_list_of pins s σ H _ us Q I r ⟨_, _, rfl, .inr (seqT_same hs h), fun l hl => q _ _ (.lst hs hl k)⟩
  · cases hg
theorem c_tuple : CallR X (.type "tuple") (rOfN X.K gTupleOf) := by
  intro pins s σ H xs us Q I r ⟨Hz, ds, b, hs, rr, hg, q⟩
  unfold gTupleOf at hg
  split at hg
  · cases hg
    obtain ⟨x, rfl, h1⟩ := rr.one
    cases h1 with
    | lst h k => exact call_tuple_of pins s σ H _ us Q I r ⟨_, _, rfl, .inl ⟨sqL_same hs h, fun l hl => q _ _ (.tup hs hl k)⟩⟩
  · cases hg
    obtain ⟨x, rfl, h1⟩ := rr.one
    cases h1 with
    | tup h k => exact call_tuple_of pins s σ H _ us Q I r ⟨_, _, rfl, .inr ⟨seqT_same hs h, q _ _ (.here hs (.tup h k))⟩⟩
  · cases hg
theorem c_str : CallR X (.type "str") (rOfN X.K gStr) := by
  intro pins s σ H xs us Q I r ⟨Hz, ds, b, hs, rr, hg, q⟩
  unfold gStr at hg
  split at hg
  · split at hg
    · rename_i hl
      cases hg
      obtain ⟨x, rfl, h1⟩ := rr.one
      exact call_str_int pins s σ H _ us Q I r ⟨_, by rw [int_of h1], hl, q _ _ (.here hs (.str _))⟩
    · cases hg
  · cases hg
    obtain ⟨x, rfl, h1⟩ := rr.one
    cases h1
    obtain ⟨u, rfl, r1⟩ := vals1 r
    cases r1
    exact PySem.P.str_of_bool ⟨.str _, H, I.tok _, ⟨_, rfl⟩, q _ _ (.here hs (.str _))⟩
  · cases hg
    obtain ⟨x, rfl, h1⟩ := rr.one
    cases h1
    obtain ⟨u, rfl, t, rfl⟩ := vals1 r
    exact PySem.P.str_of_str ⟨.str _, H, I, ⟨_, rfl⟩, q _ _ (.here hs (.str _))⟩
  · cases hg
theorem c_int : CallR X (.type "int") (rOfN X.K gInt) := by
  intro pins s σ H xs us Q I r ⟨Hz, ds, b, hs, rr, hg, q⟩
  unfold gInt at hg
  split at hg
  · cases hg
    obtain ⟨x, rfl, h1⟩ := rr.one
    exact call_int1 pins s σ H _ us Q I r (.inl ⟨_, by rw [int_of h1], q _ _ (.here hs (.int _))⟩)
  · cases hg
    obtain ⟨x, rfl, h1⟩ := rr.one
    exact call_int1 pins s σ H _ us Q I r (.inr ⟨_, by rw [rep_bl h1], q _ _ (.here hs (.int _))⟩)
  · cases hg
theorem each_of {K : Fg} {Hz : Hp} : ∀ {xs : List V} {its : List Value} {ds : List D}, Vals xs its → RepL K Hz xs ds → EachIs (fun (v : Value) (b : V × D) => RelV b.1 v ∧ Rep K Hz b.1 b.2) its (xs.zip ds)
  | _, _, _, .nil, .nil => .nil
  | _, _, _, .cons r t, .cons q u => .cons ⟨r, q⟩ (each_of t u)
theorem back_of {K : Fg} {Hz : Hp} : ∀ {its : List Value} {bs : List (V × D)}, EachIs (fun (v : Value) (b : V × D) => RelV b.1 v ∧ Rep K Hz b.1 b.2) its bs → Vals (bs.map Prod.fst) its ∧ RepL K Hz (bs.map Prod.fst) (bs.map Prod.snd)
  | _, _, .nil => ⟨.nil, .nil⟩
  | _, _, .cons r t => ⟨.cons r.1 (back_of t).1, .cons r.2 (back_of t).2⟩
theorem zip_snd {xs : List V} {ds : List D} (h : xs.length = ds.length) : (xs.zip ds).map Prod.snd = ds := List.map_snd_zip (by omega)
theorem sort_snd (bs : List (V × D)) : (bs.mergeSort (dataLe false Prod.snd)).map Prod.snd = (bs.map Prod.snd).mergeSort (dataLe false id) :=
  List.map_mergeSort fun _ _ _ _ => rfl
theorem c_sorted (hu : X.A.units + 70 < cLine) : CallR X (.builtin "sorted") (rOfN X.K gSorted) := by
  intro pins s σ H xs us Q I r ⟨Hz, ds, b, hs, rr, hg, q⟩
  unfold gSorted at hg
  split at hg
  · rename_i es
    split at hg
    · rename_i hc
      cases hg
      obtain ⟨x, rfl, h1⟩ := rr.one
      cases h1 with
      | @lst a vs _ h k =>
        obtain ⟨its, rv, pl, hz⟩ := I.list (sqL_same hs h)
        rw [Vals.ref1 r]
        have hlen := k.length
        have ee := each_of rv k
        have em : (vs.zip es).map Prod.snd = es := zip_snd hlen
        have hl : s.heap.IsList a its.toArray := pl.isList
        have er : EachIs (fun v (b : V × D) => ∃ as, Reads s.heap v b.2 as) its (vs.zip es) := by
          have key : ∀ {its : List Value} {bs : List (V × D)}, EachIs (fun (v : Value) (b : V × D) => RelV b.1 v ∧ Rep X.K Hz b.1 b.2) its bs → (∀ d ∈ bs.map Prod.snd, okEq d = true) → EachIs (fun v (b : V × D) => ∃ as, Reads s.heap v b.2 as) its bs := by
            intro its bs h
            induction h with
            | nil => exact fun _ => .nil
            | cons h1 _ ih => exact fun ho => .cons (rep_reads I hs h1.2 (ho _ (by simp)) h1.1) (ih fun d hd => ho d (by simp only [List.map_cons, List.mem_cons]; exact .inr hd))
          exact key ee (by rw [em]; exact hc.2.2.1)
        refine PySem.W.sorted_data hl ee er (by rw [em]; exact hc.1) (by rw [em]; exact hc.2.1) (by rw [List.length_zip]; omega) (fun b hb => ?_) fun out ho he => ?_
        · have hm : b.2 ∈ es := by rw [← em]; exact List.mem_map_of_mem hb
          have := SeqAt.depth_of_shaped (hc.2.2.1 _ hm)
          omega
        · obtain ⟨k1, k2⟩ := back_of he
          rw [sort_snd, em] at k2
          obtain ⟨ep, he'⟩ := PyProof.Rows.sortedAll_at s.heap its (List.toArray out)
          have hz2 : ((vs.zip es).mergeSort (dataLe false Prod.snd) |>.map Prod.fst).length ≤ sizeLine := by
            rw [List.length_map, List.length_mergeSort, List.length_zip]; omega
          exact ⟨.ref _, _, I.laid (t' := s.toks) (o := .lst (((vs.zip es).mergeSort (dataLe false Prod.snd)).map Prod.fst)) (fun _ _ => PyProof.Rows.sortedAll_old) (Nat.le_succ _) ⟨hz2, out, ep, k1, he'⟩, rfl, q _ _ (.lst hs (I.hok.fresh (Nat.le_succ _)) k2)⟩
    · cases hg
  · cases hg
end
end FK
set_option Elab.async false
set_option linter.all false
set_option maxRecDepth 100000
/-! FK 13: isinstance, texts, iterables, pairs stored. -/
namespace FK
open PySem PySem.Spec PyProof.Rows L2
/-! ### isinstance -/
def tyD : D → String
  | .none => "NoneType"
  | .bool _ => "bool"
  | .int _ => "int"
  | .str _ => "str"
  | .list _ => "list"
  | .tuple _ => "tuple"
  | .dict _ => "dict"
def anyTy (a : String) : List String → Option Bool
  | [] => some false
  | b :: r => match kitB a b with
    | some true => some true
    | some false => anyTy a r
    | none => none
def gIsi (t : String) (d : D) : Option B := (kitB (tyD d) t).map fun b => .fr (.bool b)
def gIsiT (ts : List String) (d : D) : Option B := (anyTy (tyD d) ts).map fun b => .fr (.bool b)
theorem kit_rep {X : Cx} {pins : List (Addr × Obj)} {σ : L2.St} {H Hz : Hp} {s : Shared} {x : V} {u : Value} {d : D} (I : Inv X pins σ H s) (hs : Same Hz H) (r : Rep X.K Hz x d) (rx : RelV x u) :
    ∃ P : Heap → Prop, PySem.W.KitX X.K u (.type (tyD d)) P ∧ P s.heap ∧ u ≠ .builtin "__main__.__loader__#opaque" := by
  cases r with
  | non => exact kit_of I rx (.base .non)
  | bl b => exact kit_of I rx (.base (.bl b))
  | int i => exact kit_of I rx (.base (.int i))
  | str x => exact kit_of I rx (.base (.str x))
  | lst h k =>
    rcases sqL_same hs h with (h | ⟨o, h⟩) | ⟨o, its, n, h1, h2, _⟩
    · exact kit_of I rx (.base (.lst h))
    · exact kit_of I rx (.base (.frz h))
    · exact kit_of I rx (.kList h1 h2)
  | tup h k =>
    rcases seqT_same hs h with (h | ⟨o, h⟩) | ⟨o, its, n, h1, h2, _⟩
    · exact kit_of I rx (.base (.tup h))
    · exact kit_of I rx (.fTuple h)
    · exact kit_of I rx (.kTuple h1 h2)
  | dK h k =>
    rcases rd_same hs h with h | ⟨o, h⟩
    · exact kit_of I rx (.base (.dK h))
    · exact kit_of I rx (.fDict h)
  | @dT a kvs ps h k =>
    rcases rd_same hs h with h | ⟨ob, h⟩
    · exact kit_of I rx (.base (.dT h))
    · cases (show u = Value.ref a from rx)
      obtain ⟨_, _, _, xs, _, o, es, ep, h1, h2, _⟩ := (show ObjOk X.prog X.w H s.heap a (.frz ob (.dT kvs)) from I.hok a _ h)
      exact ⟨_, PySem.W.kitx_dict, ⟨o, h1, h2.1⟩, fun z => nomatch z⟩
def rIsi1 (K : Fg) (t : String) : List V → Hp → VK → Prop := fun xs H Q => ∃ x, xs = [x, .ty t] ∧ rOf1 K (gIsi t) x H Q
def rIsi2 (K : Fg) (ts : List String) : List V → Hp → VK → Prop := fun xs H Q => ∃ x tp, xs = [x, .ref tp] ∧ H tp = some (.tup (ts.map V.ty)) ∧ rOf1 K (gIsiT ts) x H Q
theorem call_isi1 {X : Cx} {t : String} : CallR X (.builtin "isinstance") (rIsi1 X.K t) := by
  intro pins s σ H xs us Q I r ⟨x, e1, Hz, d, b, hs, rr, hg, q⟩
  subst e1
  unfold gIsi at hg
  cases hk : kitB (tyD d) t with
  | none => rw [hk] at hg; cases hg
  | some kk =>
    rw [hk] at hg; cases hg
    obtain ⟨u1, u2, rfl, r1, r2⟩ := vals2 r
    cases (show u2 = Value.type t from r2)
    obtain ⟨P, Z, p, hx⟩ := kit_rep I hs rr r1
    exact PySem.W.kia_one Z I.kIn p (kit_ty hk) hx fun tk => ⟨.bl kk, H, I.tok tk, rfl, q _ _ (.here hs (.bl _))⟩
theorem kitAny_of {K : Fg} {a : String} : ∀ {ts : List String} {b : Bool}, anyTy a ts = some b → PySem.W.kitAny K (.type a) (ts.map Value.type) = some b
  | [], b, h => by cases h; rfl
  | t :: ts, b, h => by
    unfold anyTy at h
    cases hk : kitB a t with
    | none => rw [hk] at h; cases h
    | some kk =>
      rw [hk] at h
      cases kk with
      | true =>
        cases h
        exact kitAny_cons (K := K) (kit_ty hk) (fun z => nomatch z) (fun _ => rfl)
      | false => exact kitAny_cons (K := K) (kit_ty hk) (fun _ => kitAny_of h) (fun z => nomatch z)
theorem cls_tys : ∀ (ts : List String), Paired ClsV (ts.map V.ty) (ts.map Value.type)
  | [] => .nil
  | t :: ts => .cons (.ty t) (cls_tys ts)
theorem call_isi2 {X : Cx} {ts : List String} : CallR X (.builtin "isinstance") (rIsi2 X.K ts) := by
  intro pins s σ H xs us Q I r ⟨x, tp, e1, hT, Hz, d, b, hs, rr, hg, q⟩
  subst e1
  unfold gIsiT at hg
  cases hk : anyTy (tyD d) ts with
  | none => rw [hk] at hg; cases hg
  | some kk =>
    rw [hk] at hg; cases hg
    obtain ⟨u1, u2, rfl, r1, r2⟩ := vals2 r
    cases (show u2 = Value.ref tp from r2)
    obtain ⟨P, Z, p, hx⟩ := kit_rep I hs rr r1
    obtain ⟨_, its, rv, o, h1, h2, n, h3⟩ := (show ObjOk X.prog X.w H s.heap tp (.tup (ts.map V.ty)) from I.hok tp _ hT)
    have e3 := ClsV.all (cls_tys ts) rv
    subst e3
    obtain ⟨oc, od, dt, sl⟩ := o
    simp only at h2 h3
    subst h2 h3
    exact PySem.W.kia_tup Z I.kIn p h1 (kitAny_of hk) hx fun tk => ⟨.bl kk, H, I.tok tk, rfl, q _ _ (.here hs (.bl _))⟩
section
variable {X : Cx} {T : Tx} {W : WX} {e a b : Expr} {es : List Expr} {f fa fb : SE} {fs : SA} {pos p p2 : Pos}
/-- the operand's part of a rule for one datum -/
theorem one {g : D → Option B} {σ : L2.St} {H : Hp} {Q : VK} (h : tE T W (sUn g f) σ H Q) : tE T W f σ H fun x H1 => rOf1 T.K g x H1 Q := by
  obtain ⟨Hz, ρ, F, z, h⟩ := h
  refine ⟨Hz, ρ, F, z, Aft.imp (Aft.frd h) fun v H1 ⟨Hz1, F1, d, ρ1, z1, s1, r1, q1⟩ => ?_⟩
  cases hg : g d with
  | none => rw [hg] at q1; cases q1
  | some b =>
    rw [hg] at q1
    exact ⟨Hz1, d, b, z1.sub, r1, hg, fun v H' n => (q1.fromB s1).made z1 n⟩
/-- a type's name -/
theorem e_tyName {x : Str} {t : String} (hg : Gl X x) (hm : X.mg x = none) (hv : bootBuiltins x = some (.type t)) (hn : x ≠ "__name__") (hd : (x == ("__debug__" : Str)) = false) : PE X (.Name x pos) (tC (.ty t)) := pe_bltn hg hm hv rfl hn hd
theorem e_isi {x : Str} {t : String} (hK : X.K = T.K) (he : PE X e (tE T W f)) (ht : PE X b (tC (.ty t))) (hg : Gl X "isinstance") (hm : X.mg "isinstance" = none)
    (hs : starEach [e, b] X.env = (false, eval e X.env) :: starEach [b] X.env) (hs2 : starEach [b] X.env = (false, eval b X.env) :: starEach [] X.env) (hpl : (backTo pos (starEach [b] X.env)).any (·.1) = false) :
    PE X (.Call (.Name "isinstance" p) [e, b] [] pos) (tE T W (sUn (gIsi t) f)) := by
  refine PE.mono (pe_callB (call_isi1 (t := t)) hg hm boot_isinstance (pa_cons he (pa_cons ht pa_nil hs2) hs) (by decide) (by decide) hs hpl) fun σ H Q h => ?_
  obtain ⟨Hz, ρ, F, z, h⟩ := one h
  refine ⟨Hz, ρ, F, z, Aft.imp h fun v H1 q => ?_⟩
  exact ⟨v, rfl, by rw [hK]; exact q⟩
/-- the types of a tuple -/
inductive TyNames (X : Cx) : List Expr → List String → Prop
  | nil : TyNames X [] []
  | cons {e : Expr} {es : List Expr} {t : String} {ts : List String} : PE X e (tC (.ty t)) → starEach (e :: es) X.env = (false, eval e X.env) :: starEach es X.env → TyNames X es ts → TyNames X (e :: es) (t :: ts)
theorem tys_read {es : List Expr} {ts : List String} (h : TyNames X es ts) : ∃ ta : TA, PA X es ta ∧ ∀ σ H (Q : List V → Hp → Prop), Q (ts.map V.ty) H → ta σ H Q := by
  induction h with
  | nil => exact ⟨_, pa_nil, fun σ H Q q => q⟩
  | cons h1 h2 _ ih =>
    obtain ⟨ta, h3, h4⟩ := ih
    exact ⟨_, pa_cons h1 h3 h2, fun σ H Q q => h4 _ _ _ q⟩
theorem e_isiT {ts : List String} {k : Nat} (hK : X.K = T.K) (he : PE X e (tE T W f)) (ht : TyNames X es ts) (hl : ts.length ≤ sizeLine) (hg : Gl X "isinstance") (hm : X.mg "isinstance" = none)
    (hs : starEach [e, .Tuple es k p2] X.env = (false, eval e X.env) :: starEach [.Tuple es k p2] X.env) (hs2 : starEach [.Tuple es k p2] X.env = (false, eval (.Tuple es k p2) X.env) :: starEach [] X.env) (hpl : (backTo pos (starEach [.Tuple es k p2] X.env)).any (·.1) = false) :
    PE X (.Call (.Name "isinstance" p) [e, .Tuple es k p2] [] pos) (tE T W (sUn (gIsiT ts) f)) := by
  obtain ⟨ta, h3, h4⟩ := tys_read ht
  refine PE.mono (pe_callB (call_isi2 (ts := ts)) hg hm boot_isinstance (pa_cons he (pa_cons (pe_tup h3) pa_nil hs2) hs) (by decide) (by decide) hs hpl) fun σ H Q h => ?_
  obtain ⟨Hz, ρ, F, z, h⟩ := h
  refine ⟨Hz, ρ, F, z, Aft.imp (Aft.frd h) fun v H1 ⟨Hz1, F1, d, ρ1, z1, s1, r1, q1⟩ => ?_⟩
  refine h4 _ _ _ ⟨by rw [List.length_map]; exact hl, fun tp htp => ?_⟩
  refine ⟨v, tp, rfl, upd_same, ?_⟩
  cases hg : gIsiT ts d with
  | none => rw [hg] at q1; cases q1
  | some b =>
    rw [hg] at q1
    rw [hK]
    refine ⟨Hz1, d, b, z1.sub.trans (same_push htp), r1, hg, fun v H' n => ?_⟩
    have z2 : Zone T.K Hz1 (upd H1 tp (.tup (ts.map V.ty))) σ ρ1 F1 := z1.keep (.refl _) (z1.sub.trans (same_push htp)) (fun a ha => upd_ne fun w => by subst w; exact z1.there ha htp) (fun a ha => z1.notIn ha)
    have s2 : Step Hz1 H1 F1 Hz1 (upd H1 tp (.tup (ts.map V.ty))) F1 := ⟨.refl _, fun a o e _ => same_push htp a o e, fun _ h => .inl h, fun a ha => .inr ha, fun a e => by
      obtain ⟨o, e⟩ := ex_of_ne e
      rw [same_push htp a o e]; exact fun z => nomatch z⟩
    exact ((q1.fromB s1).fromB s2).made z2 n
/-! ### texts -/
def txtsOf : List D → Option (List Str)
  | [] => some []
  | .str x :: r => (txtsOf r).map (x :: ·)
  | _ :: _ => none
theorem txts_of {K : Fg} {Hz : Hp} : ∀ {ds : List D} {vs : List V} {ys : List Str}, txtsOf ds = some ys → RepL K Hz vs ds → vs = ys.map V.str
  | [], _, ys, h, .nil => by cases h; rfl
  | d :: ds, _, ys, h, .cons r t => by
    cases d with
    | str x =>
      unfold txtsOf at h
      cases e : txtsOf ds with
      | none => rw [e] at h; cases h
      | some zs =>
        rw [e] at h; cases h
        rw [str_of r, txts_of e t]; rfl
    | _ => cases h
def joinD (a : Str) (ds : List D) : Option B := (txtsOf ds).bind fun ys => if (ys.map (·.length)).sum + ys.length * a.length ≤ 16777216 then some (.fr (.str (Txt.join a ys))) else none
def gJoin (x y : D) : Option B := match x, y with
  | .str a, .list ds => joinD a ds
  | .str a, .tuple ds => joinD a ds
  | _, _ => none
def isStr : D → Bool
  | .str _ => true
  | _ => false
/-- the object of a text's method -/
def sStrM (g : D → D → Option B) (fa fb : SE) : SE := fun ρ => (fa ρ).frd fun x ρ1 => if isStr x = true then (fb ρ1).frd fun y ρ2 => lft (g x y) ρ2 else .bad
theorem isStr_of {K : Fg} {Hz : Hp} {d : D} {v : V} (h : isStr d = true) (r : Rep K Hz v d) : ∃ a, d = .str a ∧ v = .str a := by
  cases d with
  | str a => exact ⟨a, rfl, str_of r⟩
  | _ => cases h
theorem strM {g : D → D → Option B} {r : V → List V → Hp → VK → Prop} (hr : ∀ x y H Q, rOf T.K g x y H Q → r x [y] H Q) {σ : L2.St} {H : Hp} {Q : VK} (h : tE T W (sStrM g fa fb) σ H Q) : tM1 r (tE T W fa) (tE T W fb) σ H Q := by
  obtain ⟨Hz, ρ, F, z, h⟩ := h
  refine ⟨Hz, ρ, F, z, Aft.imp (Aft.frd h) fun v H1 ⟨Hz1, F1, d, ρ1, z1, s1, r1, q1⟩ => ?_⟩
  by_cases hi : isStr d = true
  · rw [if_pos hi] at q1
    obtain ⟨a, rfl, rfl⟩ := isStr_of hi r1
    refine ⟨⟨a, rfl⟩, Hz1, ρ1, F1, z1, Aft.imp (Aft.frd (q1.fromB s1)) fun u H2 ⟨Hz2, F2, e, ρ2, z2, s2, r2, q2⟩ => ?_⟩
    cases hg : g (.str a) e with
    | none => rw [hg] at q2; cases q2
    | some b =>
      rw [hg] at q2
      exact hr _ _ _ _ ⟨Hz2, .str a, e, b, z2.sub, .str a, r2, hg, fun v H' n => (q2.fromB s2).made z2 n⟩
  · rw [if_neg hi] at q1; cases q1
theorem e_join {apos : Pos} (hK : X.K = T.K) (ha : PE X a (tE T W fa)) (hb : PE X b (tE T W fb)) (hs : starEach [b] X.env = [(false, eval b X.env)]) (hbase : attributeBase a "join" X.env (eval a X.env) = eval a X.env) (hline : (apos.endLine == pos.line) = true) :
    PE X (.Call (.Attribute a "join" apos) [b] [] pos) (tE T W (sStrM gJoin fa fb)) := by
  refine PE.mono (pe_join ha hb hs hbase hline) fun σ H Q h => strM (fun x y H Q ⟨Hz, d, e, b, hs, r1, r2, hg, q⟩ => ?_) h
  unfold gJoin at hg
  have key : ∀ {aa : Str} {ds : List D} {vs : List V} {p : Addr}, x = .str aa → y = .ref p → (SqL X.K H p vs ∨ SqT X.K H p vs) → RepL T.K Hz vs ds → joinD aa ds = some b → ∃ a p, ∃ ys : List Str, x = .str a ∧ [y] = [.ref p] ∧ (SqL X.K H p (ys.map V.str) ∨ SqT X.K H p (ys.map V.str)) ∧
      (ys.map (·.length)).sum + ys.length * a.length ≤ 16777216 ∧ Q (.str (Txt.join a ys)) H := by
    intro aa ds vs p e1 e2 e3 e4 e5
    unfold joinD at e5
    cases es : txtsOf ds with
    | none => rw [es] at e5; cases e5
    | some ys =>
      rw [es] at e5
      have e5 : (if (ys.map (·.length)).sum + ys.length * aa.length ≤ 16777216 then some (B.fr (.str (Txt.join aa ys))) else none) = some b := e5
      split at e5
      · rename_i hl
        cases e5
        have ev := txts_of es e4
        subst ev
        exact ⟨aa, p, ys, e1, by rw [e2], e3, hl, q _ _ (.here hs (.str _))⟩
      · cases e5
  split at hg
  · cases r2 with
    | lst h k => exact key (str_of r1) rfl (.inl (by rw [hK]; exact sqL_same hs h)) k hg
  · cases r2 with
    | tup h k => exact key (str_of r1) rfl (.inr (by rw [hK]; exact seqT_same hs h)) k hg
  · cases hg
def gUpper (x : D) : Option B := match x with
  | .str a => if a.length ≤ 5592405 then some (.fr (.str (Txt.upper a))) else none
  | _ => none
def gLower (x : D) : Option B := match x with
  | .str a => if a.length ≤ 5592405 then some (.fr (.str (Txt.lower a))) else none
  | _ => none
def gStrip (x : D) : Option B := match x with
  | .str a => if a.length ≤ sizeLine then some (.fr (.str (Txt.strip a))) else none
  | _ => none
theorem strM0 {g : D → Option B} {r : V → List V → Hp → VK → Prop} (hi : ∀ d b, g d = some b → isStr d = true) (hr : ∀ x H Q, rOf1 T.K g x H Q → r x [] H Q) {σ : L2.St} {H : Hp} {Q : VK} (h : tE T W (sUn g fa) σ H Q) : tM0 r (tE T W fa) σ H Q := by
  obtain ⟨Hz, ρ, F, z, h⟩ := one h
  refine ⟨Hz, ρ, F, z, Aft.imp h fun v H1 q => ?_⟩
  obtain ⟨Hz1, d, b, hs, r1, hg, q2⟩ := id q
  obtain ⟨a, rfl, rfl⟩ := isStr_of (hi d b hg) r1
  exact ⟨⟨a, rfl⟩, hr _ _ _ q⟩
theorem e_upper {apos : Pos} (ha : PE X a (tE T W fa)) (hbase : attributeBase a "upper" X.env (eval a X.env) = eval a X.env) (hline : (apos.endLine == pos.line) = true) :
    PE X (.Call (.Attribute a "upper" apos) [] [] pos) (tE T W (sUn gUpper fa)) := by
  refine PE.mono (pe_upper ha hbase hline) fun σ H Q h => strM0 (fun d b hg => ?_) (fun x H Q ⟨Hz, d, b, hs, r1, hg, q⟩ => ?_) h
  · cases d <;> first | rfl | cases hg
  · unfold gUpper at hg
    split at hg
    · split at hg
      · rename_i hl; cases hg
        exact ⟨_, str_of r1, rfl, hl, q _ _ (.here hs (.str _))⟩
      · cases hg
    · cases hg
theorem e_lower {apos : Pos} (ha : PE X a (tE T W fa)) (hbase : attributeBase a "lower" X.env (eval a X.env) = eval a X.env) (hline : (apos.endLine == pos.line) = true) :
    PE X (.Call (.Attribute a "lower" apos) [] [] pos) (tE T W (sUn gLower fa)) := by
  refine PE.mono (pe_lower ha hbase hline) fun σ H Q h => strM0 (fun d b hg => ?_) (fun x H Q ⟨Hz, d, b, hs, r1, hg, q⟩ => ?_) h
  · cases d <;> first | rfl | cases hg
  · unfold gLower at hg
    split at hg
    · split at hg
      · rename_i hl; cases hg
        exact ⟨_, str_of r1, rfl, hl, q _ _ (.here hs (.str _))⟩
      · cases hg
    · cases hg
end
/-! ### iterables -/
def itD : D → Option (List D)
  | .list ds => some ds
  | .tuple ds => some ds
  | .str x => some (x.cps.toList.map fun c => .str ⟨#[c]⟩)
  | _ => none
def iSeq (f : SE) : SI := fun ρ => (f ρ).frd fun d ρ1 => lft (itD d) ρ1
theorem it_list {K : Fg} {Hz : Hp} {a : Addr} {xs : List V} {ds : List D} (h : SqL K Hz a xs) (k : RepL K Hz xs ds) : IterOk K Hz ds (Itl K a) :=
  ⟨fun H => SqL K H a xs, YAt xs, by rw [← k.length]; exact walk_list (K := K) (a := a) (xs := xs), fun H sm => sqL_same sm h, fun i H x H' Hz2 _ ⟨e1, e2⟩ s1 s2 => by
    obtain ⟨d, h1, h2⟩ := k.get e2
    subst e1
    exact ⟨d, h1, .here s2 (h2.mono s1)⟩⟩
theorem it_tup {K : Fg} {Hz : Hp} {a : Addr} {xs : List V} {ds : List D} (h : SqT K Hz a xs) (k : RepL K Hz xs ds) : IterOk K Hz ds (Itt K a) :=
  ⟨fun H => SqT K H a xs, YAt xs, by rw [← k.length]; exact walk_tup (K := K) (a := a) (xs := xs), fun H sm => seqT_same sm h, fun i H x H' Hz2 _ ⟨e1, e2⟩ s1 s2 => by
    obtain ⟨d, h1, h2⟩ := k.get e2
    subst e1
    exact ⟨d, h1, .here s2 (h2.mono s1)⟩⟩
theorem it_str {K : Fg} {Hz : Hp} {x : Str} : IterOk K Hz (x.cps.toList.map fun c => .str ⟨#[c]⟩) (Its x) :=
  ⟨fun _ => True, fun i H v H' => H' = H ∧ ∃ c, x.cps[i]? = some c ∧ v = .str ⟨#[c]⟩, by
    have e : (x.cps.toList.map fun c => PyData.str ⟨#[c]⟩).length = x.cps.size := by simp
    rw [e]; exact walk_str (z := x), fun H sm => True.intro, fun i H v H' Hz2 _ ⟨e1, c, e2, e3⟩ s1 s2 => by
    subst e1 e3
    exact ⟨.str ⟨#[c]⟩, by rw [List.getElem?_map]; simp [e2], .here s2 (.str _)⟩⟩
section
variable {X : Cx} {T : Tx} {W : WX} {e a b tg : Expr} {es : List Expr} {f fa fb : SE} {fs : SA} {pos p p2 : Pos}
theorem pi_mono {X : Cx} {tg e : Expr} {t t' : TI} (h : PI X tg e t) (f : ∀ σ H R, t' σ H R → t σ H R) : PI X tg e t' := ⟨fun pins s σ H R I q => h.run pins s σ H R I (f σ H R q)⟩
/-- a list, a tuple, a text, by the value -/
theorem pi_seqA {te : TE} (he : PE X e te) : PI X tg e (fun σ H R => te σ H fun v H1 => (∃ a, v = .ref a ∧ (∃ xs, SqL X.K H1 a xs) ∧ R (Itl X.K a) H1) ∨ (∃ a, v = .ref a ∧ (∃ xs, SqT X.K H1 a xs) ∧ R (Itt X.K a) H1) ∨ ∃ x, v = .str x ∧ R (Its x) H1) := by
  refine ⟨fun pins s σ H R I h => ?_⟩
  refine thn (he.run pins s σ H _ I h) fun v s1 ⟨x, H1, I1, r1, q1⟩ => ?_
  rcases q1 with ⟨a, e, ⟨xs, hq⟩, q⟩ | ⟨a, e, ⟨xs, hq⟩, q⟩ | ⟨x', e, q⟩
  · subst e
    cases r1
    obtain ⟨its, rv, p, hz⟩ := I1.list hq
    refine wpAny_pyIter_list p.isList ?_
    refine ⟨s1.heap.objs.size, [s1.heap.objs.size], _, _, H1, rfl, I1.kept (t' := s1.toks) fun b o e => Heap.get?_push_of_some _ e, turn_list a _, ⟨_, Heap.get?_push_size _ rfl, rfl, rfl⟩, fun b hb => ?_, q⟩
    have e : b = s1.heap.objs.size := by simpa using hb
    subst e
    exact I1.fpOk (Nat.le_refl _) (I1.hok.fresh (Nat.le_refl _))
  · subst e
    cases r1
    obtain ⟨its, rv, p, hz⟩ := I1.tuple hq
    refine wpAny_pyIter_tuple (show s1.heap.IsTuple a its.toArray from p) ?_
    refine ⟨s1.heap.objs.size, [s1.heap.objs.size], _, _, H1, rfl, I1.kept (t' := s1.toks) fun b o e => Heap.get?_push_of_some _ e, turn_tuple a _, ⟨_, Heap.get?_push_size _ rfl, rfl, rfl⟩, fun b hb => ?_, q⟩
    have e : b = s1.heap.objs.size := by simpa using hb
    subst e
    exact I1.fpOk (Nat.le_refl _) (I1.hok.fresh (Nat.le_refl _))
  · subst e
    obtain ⟨t, rfl⟩ := r1
    cases ha : x'.cps.all (· < 128)
    · exact wpAny_pyIter_wide ha (pi_one (tk := s1.toks) I1 _ (turn_str _ x' t "str_iterator" (.inr rfl)) ⟨_, Heap.get?_push_size _ rfl, rfl, rfl⟩ q)
    · exact wpAny_pyIter_ascii ha (pi_one (tk := s1.toks) I1 _ (turn_str _ x' t "str_ascii_iterator" (.inl rfl)) ⟨_, Heap.get?_push_size _ rfl, rfl, rfl⟩ q)
theorem i_seq (hK : X.K = T.K) (he : PE X e (tE T W f)) : PI X tg e (tI T W (iSeq f)) := by
  refine pi_mono (pi_seqA he) fun σ H R ⟨Hz, ρ, F, z, h⟩ => ?_
  refine ⟨Hz, ρ, F, z, Aft.imp (Aft.frd h) fun v H1 ⟨Hz1, F1, d, ρ1, z1, s1, r1, q1⟩ => ?_⟩
  have q2 : Aft T W Hz1 H1 F1 σ (PIt T.K) _ R := q1.from s1 fun _ _ _ _ _ p => p
  rw [hK]
  cases hd : itD d with
  | none => rw [hd] at q2; cases q2
  | some ds =>
    rw [hd] at q2
    unfold itD at hd
    split at hd
    · cases hd
      cases r1 with
      | lst h k => exact .inl ⟨_, rfl, ⟨_, sqL_same z1.sub h⟩, q2 _ Hz1 H1 F1 z1 .refl (it_list h k)⟩
    · cases hd
      cases r1 with
      | tup h k => exact .inr (.inl ⟨_, rfl, ⟨_, seqT_same z1.sub h⟩, q2 _ Hz1 H1 F1 z1 .refl (it_tup h k)⟩)
    · cases hd
      exact .inr (.inr ⟨_, str_of r1, q2 _ Hz1 H1 F1 z1 .refl it_str⟩)
    · cases hd
open Classical in
/-- a number that range takes (by choice: nothing is to be reckoned out here) -/
noncomputable def rgOk (i : Int) : Bool := @decide (-4611686018427387904 ≤ i ∧ i < 4611686018427387904) (Classical.propDecidable _)
theorem rgOk_of {i : Int} (h : rgOk i = true) : -(2 ^ 62) ≤ i ∧ i < 2 ^ 62 := by
  unfold rgOk at h
  have h := @of_decide_eq_true _ (Classical.propDecidable _) h
  have e : (2 : Int) ^ 62 = 4611686018427387904 := by decide
  rw [e]; exact h
def rngL (i : Int) (n : Nat) : List D := (List.range n).map fun (k : Nat) => .int (i + k)
noncomputable def gRng1 : List D → Option (List D)
  | [.int j] => if rgOk j = true then some (rngL 0 j.toNat) else none
  | _ => none
noncomputable def gRng2 : List D → Option (List D)
  | [.int i, .int j] => if rgOk i = true ∧ rgOk j = true then some (rngL i (j - i).toNat) else none
  | _ => none
def iRng (g : List D → Option (List D)) (fs : SA) : SI := fun ρ => (fs ρ).bnd fun ds ρ1 => lft (g ds) ρ1
theorem it_rng {K : Fg} {Hz : Hp} {i : Int} {n : Nat} : IterOk K Hz (rngL i n) (Itr i n) :=
  ⟨fun _ => True, YFn fun k => .int (i + k), by
    have e : (rngL i n).length = n := by simp [rngL]
    rw [e]; exact walk_range (lo := i) (n := n), fun H sm => True.intro, fun k H v H' Hz2 hk ⟨e1, e2⟩ s1 s2 => by
    subst e1 e2
    have hk : k < n := by simpa [rngL] using hk
    refine ⟨.int (i + k), ?_, .here s2 (.int _)⟩
    unfold rngL
    rw [List.getElem?_map, List.getElem?_range hk]; rfl⟩
theorem RepL.ge {K : Fg} {Hz : Hp} {vs : List V} {d : D} {ds : List D} (r : RepL K Hz vs (d :: ds)) : ∃ v ws, vs = v :: ws ∧ Rep K Hz v d ∧ RepL K Hz ws ds := by
  cases r with
  | cons r t => exact ⟨_, _, rfl, r, t⟩
theorem i_rng1 (hg : Gl X "range") (hm : X.mg "range" = none) (ha : PA X [a] (tA T W fs)) (hs : starEach [a] X.env = [(false, eval a X.env)]) : PI X tg (.Call (.Name "range" p) [a] [] pos) (tI T W (iRng gRng1 fs)) := by
  refine pi_mono (pi_range1 hg hm ha hs) fun σ H R ⟨Hz, ρ, F, z, h⟩ => ?_
  refine ⟨Hz, ρ, F, z, Aft.imp (Aft.bnd (P := PL T.K) h) fun vs H1 ⟨Hz1, F1, ds, ρ1, z1, s1, r1, q1⟩ => ?_⟩
  have q2 : Aft T W Hz1 H1 F1 σ (PIt T.K) _ R := q1.from s1 fun _ _ _ _ _ p => p
  cases hd : gRng1 ds with
  | none => rw [hd] at q2; cases q2
  | some es =>
    rw [hd] at q2
    unfold gRng1 at hd
    split at hd
    · split at hd
      · rename_i hj
        cases hd
        obtain ⟨v, ws, rfl, r, t⟩ := RepL.ge r1
        cases t
        obtain ⟨k1, k2⟩ := rgOk_of hj
        exact ⟨_, by rw [int_of r], k1, k2, q2 _ Hz1 H1 F1 z1 .refl it_rng⟩
      · cases hd
    · cases hd
theorem i_rng2 (hg : Gl X "range") (hm : X.mg "range" = none) (ha : PA X [a, b] (tA T W fs)) (hs : starEach [a, b] X.env = [(false, eval a X.env), (false, eval b X.env)]) (hs2 : starEach [b] X.env = [(false, eval b X.env)]) :
    PI X tg (.Call (.Name "range" p) [a, b] [] pos) (tI T W (iRng gRng2 fs)) := by
  refine pi_mono (pi_range2 hg hm ha hs hs2) fun σ H R ⟨Hz, ρ, F, z, h⟩ => ?_
  refine ⟨Hz, ρ, F, z, Aft.imp (Aft.bnd (P := PL T.K) h) fun vs H1 ⟨Hz1, F1, ds, ρ1, z1, s1, r1, q1⟩ => ?_⟩
  have q2 : Aft T W Hz1 H1 F1 σ (PIt T.K) _ R := q1.from s1 fun _ _ _ _ _ p => p
  cases hd : gRng2 ds with
  | none => rw [hd] at q2; cases q2
  | some es =>
    rw [hd] at q2
    unfold gRng2 at hd
    split at hd
    · split at hd
      · rename_i hj
        cases hd
        obtain ⟨v, ws, rfl, r, t⟩ := RepL.ge r1
        obtain ⟨v2, ws2, rfl, r2, t2⟩ := RepL.ge t
        cases t2
        obtain ⟨k1, k2⟩ := rgOk_of hj.1
        obtain ⟨k3, k4⟩ := rgOk_of hj.2
        exact ⟨_, _, by rw [int_of r, int_of r2], ⟨k1, k2, k3, k4⟩, q2 _ Hz1 H1 F1 z1 .refl it_rng⟩
      · cases hd
    · cases hd
/-! ### enumerate, zip -/
def pairsAt (ds es : List D) : List D := List.zipWith (fun x y => .tuple [x, y]) ds es
theorem it_pairs {K : Fg} {Hz : Hp} {J : It} {G : Hp → Prop} {xs ys : Nat → Option V} {ds es : List D} (wk : Walk J (pairsAt ds es).length G (YPair xs ys)) (hG : ∀ H, Same Hz H → G H) (hx : ∀ i v, i < (pairsAt ds es).length → xs i = some v → ∃ d, ds[i]? = some d ∧ Rep K Hz v d) (hy : ∀ i v, ys i = some v → ∃ d, es[i]? = some d ∧ Rep K Hz v d) : IterOk K Hz (pairsAt ds es) J :=
  ⟨G, YPair xs ys, wk, hG, fun i H v H' Hz2 hi ⟨t, x, y, e1, e2, e3, e4, e5⟩ s1 s2 => by
    subst e1 e3
    obtain ⟨d, h1, r1⟩ := hx i x hi e4
    obtain ⟨e, h2, r2⟩ := hy i y e5
    refine ⟨.tuple [d, e], ?_, .tup s2 e2 (.cons (r1.mono s1) (.cons (r2.mono s1) .nil))⟩
    unfold pairsAt
    rw [List.getElem?_zipWith, h1, h2]⟩
def gEnum : List D → Option (List D)
  | [.list ds] => some (pairsAt (rngL 0 ds.length) ds)
  | _ => none
def gZip : List D → Option (List D)
  | [.list ds, .list es] => some (pairsAt ds es)
  | [.tuple ds, .tuple es] => some (pairsAt ds es)
  | _ => none
theorem walk_zipT {K : Fg} {a b : Addr} {xs ys : List V} {n : Nat} (hn : n = min xs.length ys.length) : Walk (RZ.ItzT K a b) n (fun H => SqT K H a xs ∧ SqT K H b ys) (YPair (fun i => xs[i]?) (fun i => ys[i]?)) := by
  subst hn
  refine ⟨fun i _ hi q => ?_, fun _ q => ⟨xs, ys, q.1, q.2, by omega⟩, fun i H v H' _ q y => ?_⟩
  · have h1 : i < xs.length := by omega
    have h2 : i < ys.length := by omega
    exact ⟨xs, ys, xs[i], ys[i], q.1, q.2, by simp [h1], by simp [h2]⟩
  · obtain ⟨T, x, z, h1, h2, h3, h4, h5⟩ := y
    exact ⟨T, x, z, h1, h2, h3, h4 xs q.1, h5 ys q.2⟩
theorem i_enum {elts : List Expr} {kk : Nat} {tpos : Pos} (hK : X.K = T.K) (hg : Gl X "enumerate") (hm : X.mg "enumerate" = none) (ha : PA X [a] (tA T W fs)) (hs : starEach [a] X.env = [(false, eval a X.env)]) :
    PI X (.Tuple elts kk tpos) (.Call (.Name "enumerate" p) [a] [] pos) (tI T W (iRng gEnum fs)) := by
  refine pi_mono (pi_enum hg hm ha hs) fun σ H R ⟨Hz, ρ, F, z, h⟩ => ?_
  refine ⟨Hz, ρ, F, z, Aft.imp (Aft.bnd (P := PL T.K) h) fun vs H1 ⟨Hz1, F1, ds, ρ1, z1, s1, r1, q1⟩ => ?_⟩
  have q2 : Aft T W Hz1 H1 F1 σ (PIt T.K) _ R := q1.from s1 fun _ _ _ _ _ p => p
  rw [hK]
  cases hd : gEnum ds with
  | none => rw [hd] at q2; cases q2
  | some es =>
    rw [hd] at q2
    unfold gEnum at hd
    split at hd
    · rename_i es'
      cases hd
      obtain ⟨v, ws, rfl, r, t⟩ := RepL.ge r1
      cases t
      cases r with
      | @lst a xs _ h k =>
        have hl := k.length
        have elen : (pairsAt (rngL 0 es'.length) es').length = xs.length := by unfold pairsAt rngL; simp [hl]
        refine ⟨a, xs, rfl, sqL_same z1.sub h, q2 _ Hz1 H1 F1 z1 .refl (it_pairs (G := fun H => SqL T.K H a xs) (xs := fun i => some (.int (i : Nat))) (ys := fun i => xs[i]?) (by rw [elen]; exact walk_enum) (fun H sm => sqL_same sm h) (fun i v hi hv => ?_) fun i v hv => k.get hv)⟩
        cases hv
        have hi2 : i < es'.length := by rw [elen] at hi; omega
        refine ⟨.int i, ?_, .int _⟩
        unfold rngL
        rw [List.getElem?_map, List.getElem?_range hi2]
        show some (PyData.int (0 + (i : Int))) = _
        rw [Int.zero_add]
    · cases hd
theorem i_zip {elts : List Expr} {kk : Nat} {tpos : Pos} (hK : X.K = T.K) (hg : Gl X "zip") (hm : X.mg "zip" = none) (ha : PA X [a, b] (tA T W fs)) (hs : starEach [a, b] X.env = (false, eval a X.env) :: starEach [b] X.env) (hpl : (backTo pos (starEach [b] X.env)).any (·.1) = false) :
    PI X (.Tuple elts kk tpos) (.Call (.Name "zip" p) [a, b] [] pos) (tI T W (iRng gZip fs)) := by
  refine pi_mono (RZ.pi_zipA hg hm ha hs hpl) fun σ H R ⟨Hz, ρ, F, z, h⟩ => ?_
  refine ⟨Hz, ρ, F, z, Aft.imp (Aft.bnd (P := PL T.K) h) fun vs H1 ⟨Hz1, F1, ds, ρ1, z1, s1, r1, q1⟩ => ?_⟩
  have q2 : Aft T W Hz1 H1 F1 σ (PIt T.K) _ R := q1.from s1 fun _ _ _ _ _ p => p
  rw [hK]
  cases hd : gZip ds with
  | none => rw [hd] at q2; cases q2
  | some es =>
    rw [hd] at q2
    unfold gZip at hd
    split at hd
    · rename_i es1 es2
      cases hd
      obtain ⟨v, ws, rfl, r, t⟩ := RepL.ge r1
      obtain ⟨v2, ws2, rfl, r', t2⟩ := RepL.ge t
      cases t2
      cases r with
      | @lst a xs _ h k =>
        cases r' with
        | @lst b ys _ h' k' =>
          have hl := k.length
          have hl' := k'.length
          have elen : (pairsAt es1 es2).length = min xs.length ys.length := by unfold pairsAt; simp [hl, hl']
          exact ⟨a, b, xs, ys, rfl, .inl ⟨sqL_same z1.sub h, sqL_same z1.sub h', q2 _ Hz1 H1 F1 z1 .refl (it_pairs (walk_zip elen) (fun H sm => ⟨sqL_same sm h, sqL_same sm h'⟩) (fun i v _ hv => k.get hv) fun i v hv => k'.get hv)⟩⟩
    · rename_i es1 es2
      cases hd
      obtain ⟨v, ws, rfl, r, t⟩ := RepL.ge r1
      obtain ⟨v2, ws2, rfl, r', t2⟩ := RepL.ge t
      cases t2
      cases r with
      | @tup a xs _ h k =>
        cases r' with
        | @tup b ys _ h' k' =>
          have hl := k.length
          have hl' := k'.length
          have elen : (pairsAt es1 es2).length = min xs.length ys.length := by unfold pairsAt; simp [hl, hl']
          exact ⟨a, b, xs, ys, rfl, .inr ⟨seqT_same z1.sub h, seqT_same z1.sub h', q2 _ Hz1 H1 F1 z1 .refl (it_pairs (walk_zipT elen) (fun H sm => ⟨seqT_same sm h, seqT_same sm h'⟩) (fun i v _ hv => k.get hv) fun i v hv => k'.get hv)⟩⟩
    · cases hd
end
end FK
set_option Elab.async false
set_option linter.all false
set_option maxRecDepth 100000
/-! FK 14: two names stored at once; a def's names. -/
namespace FK
open PySem PySem.Spec PyProof.Rows L2
/-- a, b = e1, e2 -/
def sPar (k1 k2 : Bool) (i j : Nat) (fa fb : SE) : SS := fun ρ => (fa ρ).bS fun b1 ρ1 => match frB k1 b1 with
  | none => .bad
  | some c1 => (fb ρ1).bS fun b2 ρ2 => match frB k2 b2 with
    | none => .bad
    | some c2 => if i < ρ2.length ∧ j < ρ2.length then .nx ((ρ2.set i c1).set j c2) else .bad
section
variable {X : Cx} {T : Tx} {W : WX} {P : List Nat} {a b : Expr} {fa fb : SE} {pos px py pt pt2 : Pos} {kt k2 : Nat}
theorem Zone.pushT {K : Fg} {Hz H : Hp} {σ : L2.St} {ρ : Env} {F : Nat → List Addr} {p : Addr} {o : HO} (z : Zone K Hz H σ ρ F) (h : H p = none) : Zone K Hz (upd H p o) σ ρ F :=
  z.keep (.refl _) (z.sub.trans (same_push h)) (fun a ha => upd_ne fun w => by subst w; exact z.there ha h) (fun a ha => z.notIn ha)
theorem Step.pushT {Hz H : Hp} {F : Nat → List Addr} {p : Addr} {o : HO} (h : H p = none) : Step Hz H F Hz (upd H p o) F :=
  ⟨.refl _, fun a o e _ => same_push h a o e, fun _ h => .inl h, fun a ha => .inr ha, fun a e => by
    obtain ⟨o, e⟩ := ex_of_ne e
    rw [same_push h a o e]; exact fun z => nomatch z⟩
theorem par_core {q1 q2 : Bool} {i j : Nat} {σ : L2.St} {H : Hp} {D : Ends} (hPi : i ∉ P) (hPj : j ∉ P) (h : tS T W P (sPar q1 q2 i j fa fb) D σ H) :
    tE T W fa σ H fun v H1 => tE T W fb σ H1 fun u H2 => D.nx ((σ.set i (some v)).set j (some u)) H2 ∧ ∀ p, H2 p = none → D.nx ((σ.set i (some v)).set j (some u)) (upd H2 p (.tup [v, u])) := by
  obtain ⟨Hz, ρ, F, z, h⟩ := h
  refine ⟨Hz, ρ, F, z, Aft.imp (AftS.bS (PP := PB T.K F) h) fun v H1 ⟨Hz1, F1, b1, ρ1, z1, s1, r1, q⟩ => ?_⟩
  cases e1 : frB q1 b1 with
  | none => rw [e1] at q; cases q
  | some c1 =>
    rw [e1] at q
    obtain ⟨Hz2, fp, z2, s2, m2, k2⟩ := keepB e1 z1 s1 r1
    have q : AftS T W P Hz H F σ ((fb ρ1).bS fun b2 ρ2 => match frB q2 b2 with
      | none => .bad
      | some c2 => if i < ρ2.length ∧ j < ρ2.length then .nx ((ρ2.set i c1).set j c2) else .bad) D := q
    refine ⟨Hz2, ρ1, F1, z2, ?_⟩
    cases eb : fb ρ1 with
    | bad => rw [eb] at q; cases q
    | exc x ρ2 => rw [eb] at q; exact fun cls d Hz' H' F' z st xr => q cls d σ Hz' H' F' z (s2.trans st) (.refl _ _) xr
    | ok b2 ρ2 =>
      rw [eb] at q
      intro u Hz3 H2 F2 z3 s3 r3
      have q : AftS T W P Hz H F σ (match frB q2 b2 with
        | none => .bad
        | some c2 => if i < ρ2.length ∧ j < ρ2.length then .nx ((ρ2.set i c1).set j c2) else .bad) D := q
      cases e2 : frB q2 b2 with
      | none => rw [e2] at q; cases q
      | some c2 =>
        rw [e2] at q
        have q : AftS T W P Hz H F σ (if i < ρ2.length ∧ j < ρ2.length then .nx ((ρ2.set i c1).set j c2) else .bad) D := q
        obtain ⟨Hz4, fp2, z4, s4, m4, k4⟩ := keepB e2 z3 s3 r3
        by_cases hl : i < ρ2.length ∧ j < ρ2.length
        · rw [if_pos hl] at q
          have st : ∀ a ∈ fp, H2 a = H1 a ∧ Hz4 a = none ∧ ¬ Own F2 a := fun a ha => by
            obtain ⟨k5, k6, k7⟩ := k2 a ha
            have hne := m2.there ha
            obtain ⟨o, ho⟩ := ex_of_ne hne
            refine ⟨by rw [s4.fr a o ho k6, ho], ?_, fun w => ?_⟩
            · cases e : Hz4 a with
              | none => rfl
              | some o' =>
                rcases s4.nz a (by rw [e]; exact fun w => nomatch w) with w | w | w
                · exact absurd k5 w
                · exact absurd w hne
                · exact absurd w k6
            · rcases s4.no a w with w | w
              · exact hne w
              · exact k6 w
          have m5 : MRep T.K Hz4 H2 fp v c1 := m2.keep s4.z fun a ha => (st a ha).1
          have z5 := z4.store hl.1 m5 fun a ha => ⟨(st a ha).2.1, (st a ha).2.2⟩
          have z6 := z5.store (i := j) (by rw [List.length_set]; exact hl.2) m4 fun a ha => ⟨(k4 a ha).1, fun w => by
            rcases own_put w with w | ⟨l, _, w⟩
            · rcases (k4 a ha).2.2 with w2 | w2
              · exact m2.there w w2
              · exact (k2 a w).2.1 w2
            · exact (k4 a ha).2.1 ⟨l, w⟩⟩
          have s6 : Step Hz H F Hz4 H2 (putF (putF F2 i fp) j fp2) := ((s2.trans s4).storeAt fun a ha => (k2 a ha).2.2).storeAt fun a ha => by
            rcases (k4 a ha).2.2 with w | w
            · left
              cases e : H a with
              | none => rfl
              | some o => exact absurd w (s2.dom a (by rw [e]; exact fun z => nomatch z))
            · exact s2.no a w
          have pr : Prot P σ ((σ.set i (some v)).set j (some u)) := (chg_set (i := i)).trans (chg_set (i := j)) |>.prot fun l hp hm => by
            have : l = i ∨ l = j := by simpa using hm
            rcases this with e | e
            · subst e; exact hPi hp
            · subst e; exact hPj hp
          exact ⟨q _ Hz4 H2 _ z6 s6 pr, fun p hp => q _ Hz4 _ _ (z6.pushT hp) (s6.trans (.pushT hp)) pr⟩
        · rw [if_neg hl] at q; cases q
theorem s_par {q1 q2 : Bool} {i j : Nat} {x y : Str} (hc : X.calm = true) (hPi : i ∉ P) (hPj : j ∉ P) (hN : X.N.Nodup) (hi : X.N[i]? = some x) (hj : X.N[j]? = some y) (hij : i ≠ j)
    (hx : X.env.scope.names.lookup x = some .local) (hy : X.env.scope.names.lookup y = some .local) (ha : PE X a (tE T W fa)) (hb : PE X b (tE T W fb))
    (h1 : starEach [a, b] X.env = (false, eval a X.env) :: starEach [b] X.env) (h2 : starEach [b] X.env = (false, eval b X.env) :: starEach [] X.env)
    (hw : swappedStores [.Tuple [.Name x px, .Name y py] kt pt] (.Tuple [a, b] k2 pt2) X.env = pure (some [x, y]))
    (hs : swapsWithSole [.Tuple [.Name x px, .Name y py] kt pt] (.Tuple [a, b] k2 pt2) pos.line X.env = pure false) :
    PS X (.Assign [.Tuple [.Name x px, .Name y py] kt pt] (.Tuple [a, b] k2 pt2) pos) (tS T W P (sPar q1 q2 i j fa fb)) := by
  exact PS.mono (ps_par hc hN hi hj hij hx hy (pa_cons ha (pa_cons hb pa_nil h2) h1) hw hs) fun D σ H h => by
    obtain ⟨Hz, ρ, F, z, q⟩ := par_core hPi hPj h
    refine ⟨Hz, ρ, F, z, Aft.imp q fun v H1 ⟨Hz1, ρ1, F1, z1, q⟩ => ⟨Hz1, ρ1, F1, z1, Aft.imp q fun u H2 q => ?_⟩⟩
    exact ⟨v, u, rfl, q.1⟩
/-- .. names that a block reads -/
theorem s_parC {q1 q2 : Bool} {i j : Nat} {x y : Str} (hc : X.calm = true) (hPi : i ∉ P) (hPj : j ∉ P) (hN : X.N.Nodup) (hK : X.K = T.K) (hi : X.N[i]? = some x) (hj : X.N[j]? = some y)
    (hx : L2.Loc X.env.scope x ∧ (X.fn x = true ∨ X.env.scope.names.lookup x = some .local)) (hy : L2.Loc X.env.scope y ∧ (X.fn y = true ∨ X.env.scope.names.lookup y = some .local)) (ha : PE X a (tE T W fa)) (hb : PE X b (tE T W fb))
    (h1 : starEach [a, b] X.env = (false, eval a X.env) :: starEach [b] X.env) (h2 : starEach [b] X.env = (false, eval b X.env) :: starEach [] X.env)
    (ha1 : (assignEach [.Name x px, .Name y py] X.env).map (·.2) = assign (.Name x px) X.env :: (assignEach [.Name y py] X.env).map (·.2)) (ha2 : (assignEach [.Name y py] X.env).map (·.2) = assign (.Name y py) X.env :: (assignEach [] X.env).map (·.2))
    (hn : (assignEach [.Name x px, .Name y py] X.env).length = 2) (hst : (assignEach [.Name x px, .Name y py] X.env).findIdx? (·.1) = none)
    (hw : swappedStores [.Tuple [.Name x px, .Name y py] kt pt] (.Tuple [a, b] k2 pt2) X.env = pure none)
    (hs : swapsWithSole [.Tuple [.Name x px, .Name y py] kt pt] (.Tuple [a, b] k2 pt2) pos.line X.env = pure false)
    (h3 : (assignEach [.Tuple [.Name x px, .Name y py] kt pt] X.env).map (·.2) = [assign (.Tuple [.Name x px, .Name y py] kt pt) X.env]) :
    PS X (.Assign [.Tuple [.Name x px, .Name y py] kt pt] (.Tuple [a, b] k2 pt2) pos) (tS T W P (sPar q1 q2 i j fa fb)) := by
  refine PS.mono (ps_asg (pe_tup (pa_cons ha (pa_cons hb pa_nil h2) h1)) (pg_tup hc (pgs_cons (pg_name hN hi hx.1 hx.2) (pgs_cons (pg_name hN hj hy.1 hy.2) pgs_nil ha2) ha1) hn hst) hs hw h3) fun D σ H h => ?_
  obtain ⟨Hz, ρ, F, z, q⟩ := par_core hPi hPj h
  refine ⟨Hz, ρ, F, z, Aft.imp q fun v H1 ⟨Hz1, ρ1, F1, z1, q⟩ => ⟨Hz1, ρ1, F1, z1, Aft.imp q fun u H2 q => ?_⟩⟩
  refine ⟨by show 2 ≤ sizeLine; decide, fun p hp => ⟨p, [v, u], rfl, .inl (.inl upd_same), rfl, ?_⟩⟩
  exact ⟨v, [u], rfl, u, [], rfl, rfl, q.2 p hp⟩
end
end FK
set_option Elab.async false
set_option linter.all false
set_option maxRecDepth 100000
/-! FK 15: contexts, the table of defs. -/
namespace FK
open PySem PySem.Spec PyProof.Rows L2
/-! ### tests and lent names -/
noncomputable def sLendT (i : Nat) (c : STs) : STs := fun ρ => match ρ[i]? with
  | some (.ow d) => (c (ρ.set i (.fr d))).bnd fun b ρ' => if okBack i d .no ρ ρ' = true then .ok b (ρ'.set i (.ow d)) else .ok b ρ'
  | _ => c ρ
section
variable {X : Cx} {T : Tx} {W : WX} {e : Expr} {c : STs}
theorem t_lend {i : Nat} (he : PT X e (tT T W c)) : PT X e (tT T W (sLendT i c)) := by
  refine PT.mono he fun σ H Q ⟨Hz, ρ, F, z, h⟩ => ?_
  unfold sLendT at h
  cases q : ρ[i]? with
  | none => rw [q] at h; exact ⟨Hz, ρ, F, z, h⟩
  | some b =>
    rw [q] at h
    cases b with
    | ow d =>
      obtain ⟨a, hv, hf, o⟩ := z.owned q
      have hz : Hz a = none := z.out i a (by rw [hf]; simp)
      have st := Step.lend (H := H) hz hf
      refine ⟨_, _, _, z.lend q hv hf o, ?_⟩
      have h : Aft T W Hz H F σ PT_ ((c (ρ.set i (.fr d))).bnd fun b ρ' => if okBack i d .no ρ ρ' = true then .ok b (ρ'.set i (.ow d)) else .ok b ρ') Q := h
      generalize c (ρ.set i (.fr d)) = r at h
      cases r with
      | bad => exact h
      | exc x ρ' => exact fun cls dd Hz' H' F' z' s' q' => h cls dd Hz' H' F' z' (st.trans s') q'
      | ok b ρ' =>
        intro v Hz' H' F' z' s' pb
        have s2 := st.trans s'
        by_cases ok : okBack i d .no ρ ρ' = true
        · have h : Aft T W Hz H F σ PT_ (if okBack i d .no ρ ρ' = true then .ok b (ρ'.set i (.ow d)) else .ok b ρ') Q := h
          rw [if_pos ok] at h
          unfold okBack at ok
          simp only [Bool.and_eq_true, decide_eq_true_eq] at ok
          obtain ⟨⟨k1, k2⟩, k3⟩ := ok
          obtain ⟨z2, nt, na⟩ := z.unlend q hv hf o z' s2 s'.z k3 k2
          refine h v _ H' _ z2 ⟨fun c x e => by rw [drp_ne (ne_of_none e hz)]; exact s2.z c x e, s2.fr, fun c hc => s2.nz c fun w => hc (by
            by_cases hca : c = a
            · subst hca; exact drp_same
            · rw [drp_ne hca]; exact w), fun c hc => ?_, s2.dom⟩ pb
          rcases own_put hc with w | ⟨j, _, w⟩
          · have : c = a := by simpa using w
            subst this; exact .inr ⟨i, by rw [hf]; simp⟩
          · exact s2.no c ⟨j, w⟩
        · have h : Aft T W Hz H F σ PT_ (if okBack i d .no ρ ρ' = true then .ok b (ρ'.set i (.ow d)) else .ok b ρ') Q := h
          rw [if_neg ok] at h
          exact h v Hz' H' F' z' s2 pb
    | no => exact ⟨Hz, ρ, F, z, h⟩
    | fr d => exact ⟨Hz, ρ, F, z, h⟩
    | ob c fs => exact ⟨Hz, ρ, F, z, h⟩
end
/-! ### contexts -/
def visB (sc : Scope) (x : Str) : Bool := match sc.names.lookup x with
  | some .local => true
  | some .cell => true
  | some .free => true
  | _ => false
def locB (sc : Scope) (x : Str) : Bool := match sc.names.lookup x with
  | some .local => true
  | some .cell => true
  | _ => false
def plnB (x : Str) : Bool := !(x == ("__debug__" : Str)) && !(x == ("__classdict__" : Str))
def seesB (N : List Str) (sc : Scope) (l : List Nat) : Bool := l.all fun i => match N[i]? with
  | some x => visB sc x && plnB x
  | none => true
def putsB (N : List Str) (sc : Scope) (m : List Nat) : Bool := m.all fun i => match N[i]? with
  | some x => locB sc x
  | none => true
def ownsB (N : List Str) (sc : Scope) (m : List Nat) : Bool := m.all fun i => match N[i]? with
  | some x => decide (sc.names.lookup x = some .local)
  | none => true
structure Cxt (X : Cx) (T : Tx) (W : WX) (k : Nat) (l m : List Nat) : Prop where
  hK : X.K = T.K
  calm : X.calm = true
  nd : X.N.Nodup
  vis : ∀ i x, l.contains i = true → X.N[i]? = some x → Vis X.env.scope x ∧ (x == ("__debug__" : Str)) = false ∧ (x == ("__classdict__" : Str)) = false
  loc : ∀ i x, m.contains i = true → X.N[i]? = some x → L2.Loc X.env.scope x ∧ (X.fn x = true ∨ X.env.scope.names.lookup x = some .local)
  tk : Takes X W
  room : Room k X.A
theorem vis_of {sc : Scope} {x : Str} (h : visB sc x = true) : Vis sc x := by
  unfold visB at h
  unfold Vis
  split at h <;> simp_all
theorem loc_of {sc : Scope} {x : Str} (h : locB sc x = true)  : L2.Loc sc x := by
  unfold locB at h
  unfold L2.Loc
  split at h <;> simp_all
theorem sees_of {N : List Str} {sc : Scope} {l : List Nat} (h : seesB N sc l = true) (i : Nat) (x : Str) (hi : l.contains i = true) (hx : N[i]? = some x) : Vis sc x ∧ (x == ("__debug__" : Str)) = false ∧ (x == ("__classdict__" : Str)) = false := by
  have h1 := List.all_eq_true.mp h i (List.contains_iff_mem.mp hi)
  simp only [hx, Bool.and_eq_true] at h1
  have h2 := h1.2
  unfold plnB at h2
  rw [Bool.and_eq_true, Bool.not_eq_true', Bool.not_eq_true'] at h2
  exact ⟨vis_of h1.1, h2.1, h2.2⟩
theorem puts_of {N : List Str} {sc : Scope} {l : List Nat} (h : putsB N sc l = true) (i : Nat) (x : Str) (hi : l.contains i = true) (hx : N[i]? = some x)  : L2.Loc sc x := by
  have h1 := List.all_eq_true.mp h i (List.contains_iff_mem.mp hi)
  simp only [hx] at h1
  exact loc_of h1
theorem owns_of {N : List Str} {sc : Scope} {l : List Nat} (h : ownsB N sc l = true) (i : Nat) (x : Str) (hi : l.contains i = true) (hx : N[i]? = some x) : sc.names.lookup x = some .local := by
  have h1 := List.all_eq_true.mp h i (List.contains_iff_mem.mp hi)
  simp only [hx] at h1
  exact of_decide_eq_true h1
/-- a def's own context -/
theorem Cxt.ofDef {P : Program} {w : World} {T : Tx} {mg : Str → Option Value} {base : Heap} {k : Nat} {f : Addr} {qual : Str} {scope : Scope} {N ps : List Str} {cdv : Value} {A : Around} {outer : List PySem.Env} {s : Shared} {H : Hp} {E : XK} {l m : List Nat}
    (S : FnScope N ps scope) (h1 : seesB N scope l = true) (h2 : putsB N scope m = true) (hr : Room k (A.deeper (envOfC qual scope s.heap.objs.size f cdv))) :
    Cxt (cxOf (L2.CX P w) P w T.K mg base N qual scope f cdv A outer s H E) T (fun cls d _ H' => E cls d H') k l m :=
  ⟨rfl, rfl, S.nd, sees_of h1, fun i x hi hx => ⟨puts_of h2 i x hi hx, .inl rfl⟩, takes_of rfl rfl rfl rfl, hr⟩
/-- a block's context -/
theorem Cxt.blk {X : Cx} {T : Tx} {W : WX} {k : Nat} {l m l' m' : List Nat} (C : Cxt X T W k l m) {scope : Scope} (h1 : seesB X.N (relS scope X.env.scope) l' = true) (h2 : ownsB X.N (relS scope X.env.scope) m' = true) (s : Shared) (H : Hp) (Ca : Addr) (cl : List (Str × Addr)) (fp : List Addr) :
    Cxt (X.blk s H scope (compEnvC scope cl Ca X.env) fp) T W0 k l' m' :=
  ⟨C.hK, C.calm, C.nd, sees_of h1, fun i x hi hx => ⟨.inl (owns_of h2 i x hi hx), .inr (owns_of h2 i x hi hx)⟩, fun u s' ⟨_, _, _, _, _, _, _, _, _, _, _, _, _, _, _, _, w⟩ => w.elim, C.room⟩
section
variable {X : Cx} {T : Tx} {W : WX} {k : Nat} {l m : List Nat} {a b c e : Expr} {es : List Expr} {f fa fb fc : SE} {fs : SA} {fv : SAv} {P : List Nat} {pos p p1 p2 apos : Pos}
theorem Cxt.units (C : Cxt X T W k l m) : X.A.units + 66 < cLine := by have := C.room.un; omega
theorem Cxt.units2 (C : Cxt X T W k l m) : X.A.units + 70 < cLine := by have := C.room.un; omega
theorem v_ (C : Cxt X T W k l m) {i : Nat} {x : Str} (hN : X.N[i]? = some x) (hl : l.contains i = true) : PE X (.Name x pos) (tE T W (sVar i)) :=
  e_var hN (C.vis i x hl hN).1 (C.vis i x hl hN).2.1 (C.vis i x hl hN).2.2
theorem vio_ (C : Cxt X T W k l m) {i : Nat} {x : Str} (hN : X.N[i]? = some x) (hl : l.contains i = true) (hr : PA X es (tAv T W fv)) (hs : starEach (.Name x pos :: es) X.env = (false, eval (.Name x pos) X.env) :: starEach es X.env) : PA X (.Name x pos :: es) (tAv T W (vIo i fv)) :=
  v_io hN (C.vis i x hl hN).1 (C.vis i x hl hN).2.1 (C.vis i x hl hN).2.2 hr hs
theorem mv_ (C : Cxt X T W k l m) {i : Nat} {x : Str} (hN : X.N[i]? = some x) (hl : l.contains i = true) : PE X (.Name x pos) (tE T W (sMove i)) :=
  e_move hN (C.vis i x hl hN).1 (C.vis i x hl hN).2.1 (C.vis i x hl hN).2.2
theorem nm_ (C : Cxt X T W k l m) {i : Nat} {x : Str} (hN : X.N[i]? = some x) (hm : m.contains i = true) : PG X (.Name x pos) (tG T [i] (gNm i)) :=
  g_name C.nd hN (C.loc i x hm hN).1 (C.loc i x hm hN).2
theorem set_ (C : Cxt X T W k l m) (keep : Bool) {i : Nat} {x : Str} (hP : P.contains i = false) (hN : X.N[i]? = some x) (hm : m.contains i = true) (he : PE X e (tE T W f)) (hs : swapsWith e (some (.Name x p)) pos.line X.env = pure false) : PS X (.Assign [.Name x p] e pos) (tS T W P (sSet keep i f)) :=
  s_set (fun h => by rw [List.contains_iff_mem.mpr h] at hP; cases hP) C.nd hN (C.loc i x hm hN).1 he hs (C.loc i x hm hN).2
theorem k_eq (C : Cxt X T W k l m) : OpR X (compareOp .Eq) (rOf T.K gEq) := C.hK ▸ o_eq C.units
theorem k_ne (C : Cxt X T W k l m) : OpR X (compareOp .NotEq) (rOf T.K gNe) := C.hK ▸ o_ne C.units
theorem k_lt (C : Cxt X T W k l m) : OpR X (compareOp .Lt) (rOf T.K gLt) := C.hK ▸ o_lt C.units
theorem k_gt (C : Cxt X T W k l m) : OpR X (compareOp .Gt) (rOf T.K gGt) := C.hK ▸ o_gt C.units
theorem k_le (C : Cxt X T W k l m) : OpR X (compareOp .LtE) (rOf T.K gLe) := C.hK ▸ o_le C.units
theorem k_ge (C : Cxt X T W k l m) : OpR X (compareOp .GtE) (rOf T.K gGe) := C.hK ▸ o_ge C.units
theorem k_in (C : Cxt X T W k l m) : OpR X (compareOp .In) (rOf T.K gIn) := C.hK ▸ o_in C.units
theorem k_notIn (C : Cxt X T W k l m) : OpR X (compareOp .NotIn) (rOf T.K gNotIn) := C.hK ▸ o_notIn C.units
theorem k_is (C : Cxt X T W k l m) : OpR X (compareOp .Is) (rOf T.K gIs) := C.hK ▸ o_is
theorem k_isNot (C : Cxt X T W k l m) : OpR X (compareOp .IsNot) (rOf T.K gIsNot) := C.hK ▸ o_isNot
theorem k_add (C : Cxt X T W k l m) : OpR X (binaryOp .Add) (rOf T.K gAdd) := C.hK ▸ o_add
theorem k_sub (C : Cxt X T W k l m) : OpR X (binaryOp .Sub) (rOf T.K gSub) := C.hK ▸ o_sub
theorem k_mul (C : Cxt X T W k l m) : OpR X (binaryOp .Mult) (rOf T.K gMul) := C.hK ▸ o_mul
theorem k_fdiv (C : Cxt X T W k l m) : OpR X (binaryOp .FloorDiv) (rOf T.K gFdiv) := C.hK ▸ o_fdiv
theorem k_mod (C : Cxt X T W k l m) : OpR X (binaryOp .Mod) (rOf T.K gMod) := C.hK ▸ o_mod
theorem k_pow (C : Cxt X T W k l m) : OpR X (binaryOp .Pow) (rOf T.K gPow) := C.hK ▸ o_pow
theorem j_len (C : Cxt X T W k l m) : CallR X (.builtin "len") (rOfN T.K gLen) := C.hK ▸ c_len
theorem j_max (C : Cxt X T W k l m) : CallR X (.builtin "max") (rOfN T.K gMax) := C.hK ▸ c_max C.calm
theorem j_min (C : Cxt X T W k l m) : CallR X (.builtin "min") (rOfN T.K gMin) := C.hK ▸ c_min C.calm
theorem j_all (C : Cxt X T W k l m) : CallR X (.builtin "all") (rOfN T.K gAll) := C.hK ▸ c_all C.calm
theorem j_any (C : Cxt X T W k l m) : CallR X (.builtin "any") (rOfN T.K gAny) := C.hK ▸ c_any C.calm
theorem j_sorted (C : Cxt X T W k l m) : CallR X (.builtin "sorted") (rOfN T.K gSorted) := C.hK ▸ c_sorted C.units2
theorem j_list (C : Cxt X T W k l m) : CallR X (.type "list") (rOfN T.K gListOf) := C.hK ▸ c_list
theorem j_tuple (C : Cxt X T W k l m) : CallR X (.type "tuple") (rOfN T.K gTupleOf) := C.hK ▸ c_tuple
theorem j_str (C : Cxt X T W k l m) : CallR X (.type "str") (rOfN T.K gStr) := C.hK ▸ c_str
theorem j_int (C : Cxt X T W k l m) : CallR X (.type "int") (rOfN T.K gInt) := C.hK ▸ c_int
/-- a module's number -/
theorem gi_ {x : Str} {i : Int} (hm : ∃ t, X.mg x = some (.int i t)) (hg : Gl X x) (hd : (x == ("__debug__" : Str)) = false) : PE X (.Name x pos) (tE T W (sC (.int i))) := by
  obtain ⟨t, hm⟩ := hm
  exact e_const (pe_glob (v := .int i) hg hm ⟨t, rfl⟩ hd) rfl fun _ _ => .int i
/-- a def of the module -/
structure FnAt (K : Fg) (mg : Str → Option Value) (x : Str) (f : Addr) (fd : FuncData) (ps : List Str) : Prop where
  gl : mg x = some (.ref f)
  kp : PySem.W.keepIn K (.ref f) = true
  bd : Binds K fd ps []
theorem call_ (C : Cxt X T W k l m) {n : Nat} {f : Addr} {fd : FuncData} {ps : List Str} {x : Str} {ft : SE} (F : FnOk X.prog X.w T.K X.mg X.base (L2.CX X.prog X.w) k f fd ps (spF T n ft)) (A : FnAt T.K X.mg x f fd ps) (hft : ∀ bs, ft bs ≠ .bad → bs.length = n)
    (ha : PA X (e :: es) (tAv T W fv)) (hg : Gl X x) (hdb : (x == ("__debug__" : Str)) = false) (he : starEach (e :: es) X.env = (false, eval e X.env) :: starEach es X.env) (hpl : (backTo pos (starEach es X.env)).any (·.1) = false) :
    PE X (.Call (.Name x p) (e :: es) [] pos) (tE T W (sCall ft fv)) :=
  e_call C.hK (by rw [C.hK]; exact F) C.room hg A.gl (by rw [C.hK]; exact A.kp) (by rw [C.hK]; exact A.bd) C.tk ha hft hdb he hpl
end
/-- name = [.. for ..] -/
theorem s_setLc {X : Cx} {T : Tx} {W : WX} {P : List Nat} {keep : Bool} {i : Nat} {y : Str} {py : Pos} {elt tg iter : Expr} {ifs : List Expr} {scope : Scope} {own : List (Str × Nat)} {pos spos : Pos} {it : SI} {g : SG} {ct : STs} {fe : SE} {L : List Nat} (hc : X.calm = true) (hN : X.N.Nodup) (hP : i ∉ P) (hy : X.N[i]? = some y) (hyl : X.env.scope.names.lookup y = some .local)
    (hsw : swapsWith (.ListComp elt [⟨tg, iter, ifs, 0⟩] scope pos) (some (.Name y py)) spos.line X.env = pure true) (hi : PI X tg iter (tI T W it)) (ok : BlkOk X.N X.env.scope scope own) (hL : ∀ i ∈ L, i ∈ own.map (·.2))
    (hg : ∀ (s : Shared) (H : Hp) (C : Addr) (cl : List (Str × Addr)) (fp : List Addr), PG (X.blk s H scope (compEnvC scope cl C X.env) fp) tg (tG T L g))
    (ht : ∀ (s : Shared) (H : Hp) (C : Addr) (cl : List (Str × Addr)) (fp : List Addr), PTs (X.blk s H scope (compEnvC scope cl C X.env) fp) ifs (tT T W0 ct))
    (he : ∀ (s : Shared) (H : Hp) (C : Addr) (cl : List (Str × Addr)) (fp : List Addr), PE (X.blk s H scope (compEnvC scope cl C X.env) fp) elt (tE T W0 fe)) (hs : ∀ x, foldedSetIterable iter X.env x = pure x) :
    PS X (.Assign [.Name y py] (.ListComp elt [⟨tg, iter, ifs, 0⟩] scope pos) spos) (tS T W P (sSet keep i (sLc (own.map (·.2)) it g ct fe))) := by
  refine PS.mono (ps_setLc hc hN hy hyl hsw hi ok hg ht he hs) fun D σ H ⟨Hz, ρ, F, z, h⟩ => ?_
  refine e_lc (pos := pos) hc hN hi ok hL hg ht he hs rfl ⟨Hz, ρ, F, z, Aft.imp (AftS.bS (PP := PB T.K F) h) fun v H1 ⟨Hz1, F1, b, ρ1, z1, s1, r1, q1⟩ => ?_⟩
  exact set_aft hP z1 s1 r1 q1
theorem e_lcE {X : Cx} {T : Tx} {W : WX} {elt tg iter : Expr} {ifs : List Expr} {scope : Scope} {own : List (Str × Nat)} {pos : Pos} {it : SI} {g : SG} {ct : STs} {fe : SE} {L : List Nat} (hc : X.calm = true) (hN : X.N.Nodup) (hi : PI X tg iter (tI T W it)) (ok : BlkOk X.N X.env.scope scope own)
    (hL : ∀ i ∈ L, i ∈ own.map (·.2))
    (hg : ∀ (s : Shared) (H : Hp) (C : Addr) (cl : List (Str × Addr)) (fp : List Addr), PG (X.blk s H scope (compEnvC scope cl C X.env) fp) tg (tG T L g))
    (ht : ∀ (s : Shared) (H : Hp) (C : Addr) (cl : List (Str × Addr)) (fp : List Addr), PTs (X.blk s H scope (compEnvC scope cl C X.env) fp) ifs (tT T W0 ct))
    (he : ∀ (s : Shared) (H : Hp) (C : Addr) (cl : List (Str × Addr)) (fp : List Addr), PE (X.blk s H scope (compEnvC scope cl C X.env) fp) elt (tE T W0 fe)) (hs : ∀ x, foldedSetIterable iter X.env x = pure x) :
    PE X (.ListComp elt [⟨tg, iter, ifs, 0⟩] scope pos) (tE T W (sLc (own.map (·.2)) it g ct fe)) :=
  PE.mono (pe_lc hc hN hi ok hg ht he hs) fun σ H Q h => e_lc (pos := pos) hc hN hi ok hL hg ht he hs rfl h
/-! ### the table -/
structure PD where
  body : (Nat → SE) → SS
  np : Nat
  ns : Nat
  prot : List Nat
def PD.none : PD := ⟨fun _ _ => .bad, 0, 0, []⟩
def sem (pds : List PD) : Nat → Nat → SE
  | 0, _ => fun _ => .bad
  | k + 1, i => runDef ((pds.getD i PD.none).body (sem pds k)) (pds.getD i PD.none).np (pds.getD i PD.none).ns (pds.getD i PD.none).prot
theorem sem_len {pds : List PD} : ∀ {k i : Nat} (bs : List B), sem pds k i bs ≠ .bad → bs.length = (pds.getD i PD.none).np
  | 0, i, bs, h => absurd rfl h
  | k + 1, i, bs, h => by
    unfold sem runDef at h
    by_cases e : bs.length = (pds.getD i PD.none).np
    · exact e
    · rw [if_neg e] at h; exact absurd rfl h
abbrev Okd (P : Program) (w : World) (T : Tx) (mg : Str → Option Value) (base : Heap) (ats : List (Str × Option Str)) (fds : Nat → FuncData) (pss : List (List Str)) (pds : List PD) (k i : Nat) : Prop :=
  FnOk P w T.K mg base (L2.CX P w) k (He.fAd T.K (ats.getD i ("", none))) (fds i) (pss.getD i []) (spF T (pds.getD i PD.none).np (sem pds k i))
theorem tab {P : Program} {w : World} {T : Tx} {mg : Str → Option Value} {base : Heap} {ats : List (Str × Option Str)} {fds : Nat → FuncData} {pss : List (List Str)} {pds : List PD} {n : Nat}
    (h : ∀ k, (∀ j, j < n → Okd P w T mg base ats fds pss pds k j) → ∀ i, i < n → Okd P w T mg base ats fds pss pds (k + 1) i) : ∀ k i, i < n → Okd P w T mg base ats fds pss pds k i
  | 0, i, hi => by
    have no : ∀ vs H Q E, ¬ spF T (pds.getD i PD.none).np (sem pds 0 i) vs H Q E := fun vs H Q E q => by
      obtain ⟨_, Hz, ρ, F, _, q⟩ := q
      exact q
    exact ⟨fun vs H Q E q => (no _ _ _ _ q).elim, fun A outer s H args us vs Q E _ _ _ _ q => (no _ _ _ _ q).elim⟩
  | k + 1, i, hi => h k (fun j hj => tab h k j hj) i hi
end FK
set_option Elab.async false
set_option linter.all false
set_option maxRecDepth 100000
/-! FK 16: what the printed proofs use. -/
namespace FK
open PySem PySem.Spec PyProof.Rows L2
def gNeg (d : D) : Option B := match d with
  | .int i => some (.fr (.int (-i)))
  | _ => none
section
variable {X : Cx} {T : Tx} {W : WX} {k : Nat} {l m : List Nat} {a b c e : Expr} {es : List Expr} {f fa fb fc : SE} {fs : SA} {fv : SAv} {ct et : STs} {P : List Nat} {pos p p1 p2 apos : Pos}
theorem k_neg (C : Cxt X T W k l m) : UnR X (unaryOp .USub) (rOf1 T.K gNeg) := by
  intro pins s σ H x v Q I rx ⟨Hz, d, b, hs, r1, hg, q⟩
  cases d with
  | int i =>
    cases hg
    exact un_neg pins s σ H x v Q I rx ⟨i, int_of r1, q _ _ (.here hs (.int _))⟩
  | _ => cases hg
/-- the conditions of a comprehension -/
theorem c_nil : PTs X [] (tT T W sYes) := ⟨fun pins s σ H Q I ⟨Hz, ρ, F, z, h⟩ => pts_nil.run pins s σ H Q I (h true Hz H F z .refl rfl)⟩
theorem c_one (h : PT X c (tT T W ct)) : PTs X [c] (tT T W ct) := pts_one h
theorem dne {N : List Nat} {P : List Nat} (h : (P.all fun i => !(N.contains i)) = true) : ∀ i ∈ P, i ∉ N := fun i hi hn => by
  have := List.all_eq_true.mp h i hi
  rw [List.contains_iff_mem.mpr hn] at this
  cases this
theorem lc_ (C : Cxt X T W k l m) (l' m' : List Nat) (own : List (Str × Nat)) {elt tg iter : Expr} {ifs : List Expr} {scope : Scope} {it : SI} {g : SG} {fe : SE} {L : List Nat} (hb : blkC X.N X.env.scope scope own = true) (h1 : seesB X.N (relS scope X.env.scope) l' = true) (h2 : ownsB X.N (relS scope X.env.scope) m' = true)
    (hL : (L.all fun i => (own.map (·.2)).contains i) = true) (hi : PI X tg iter (tI T W it))
    (hg : ∀ (s : Shared) (H : Hp) (Ca : Addr) (cl : List (Str × Addr)) (fp : List Addr), Cxt (X.blk s H scope (compEnvC scope cl Ca X.env) fp) T W0 k l' m' → PG (X.blk s H scope (compEnvC scope cl Ca X.env) fp) tg (tG T L g))
    (ht : ∀ (s : Shared) (H : Hp) (Ca : Addr) (cl : List (Str × Addr)) (fp : List Addr), Cxt (X.blk s H scope (compEnvC scope cl Ca X.env) fp) T W0 k l' m' → PTs (X.blk s H scope (compEnvC scope cl Ca X.env) fp) ifs (tT T W0 ct))
    (he : ∀ (s : Shared) (H : Hp) (Ca : Addr) (cl : List (Str × Addr)) (fp : List Addr), Cxt (X.blk s H scope (compEnvC scope cl Ca X.env) fp) T W0 k l' m' → PE (X.blk s H scope (compEnvC scope cl Ca X.env) fp) elt (tE T W0 fe)) (hs : ∀ x, foldedSetIterable iter X.env x = pure x) :
    PE X (.ListComp elt [⟨tg, iter, ifs, 0⟩] scope pos) (tE T W (sLc (own.map (·.2)) it g ct fe)) :=
  e_lcE C.calm C.nd hi (blkOk_by hb) (fun i hi => List.contains_iff_mem.mp (List.all_eq_true.mp hL i hi)) (fun s H Ca cl fp => hg s H Ca cl fp (C.blk h1 h2 s H Ca cl fp)) (fun s H Ca cl fp => ht s H Ca cl fp (C.blk h1 h2 s H Ca cl fp)) (fun s H Ca cl fp => he s H Ca cl fp (C.blk h1 h2 s H Ca cl fp)) hs
theorem setLc_ (C : Cxt X T W k l m) (l' m' : List Nat) (own : List (Str × Nat)) (keep : Bool) {i : Nat} {y : Str} {py spos : Pos} {elt tg iter : Expr} {ifs : List Expr} {scope : Scope} {it : SI} {g : SG} {fe : SE} {L : List Nat} (hP : P.contains i = false) (hy : X.N[i]? = some y) (hyl : X.env.scope.names.lookup y = some .local)
    (hsw : swapsWith (.ListComp elt [⟨tg, iter, ifs, 0⟩] scope pos) (some (.Name y py)) spos.line X.env = pure true)
    (hb : blkC X.N X.env.scope scope own = true) (h1 : seesB X.N (relS scope X.env.scope) l' = true) (h2 : ownsB X.N (relS scope X.env.scope) m' = true)
    (hL : (L.all fun i => (own.map (·.2)).contains i) = true) (hi : PI X tg iter (tI T W it))
    (hg : ∀ (s : Shared) (H : Hp) (Ca : Addr) (cl : List (Str × Addr)) (fp : List Addr), Cxt (X.blk s H scope (compEnvC scope cl Ca X.env) fp) T W0 k l' m' → PG (X.blk s H scope (compEnvC scope cl Ca X.env) fp) tg (tG T L g))
    (ht : ∀ (s : Shared) (H : Hp) (Ca : Addr) (cl : List (Str × Addr)) (fp : List Addr), Cxt (X.blk s H scope (compEnvC scope cl Ca X.env) fp) T W0 k l' m' → PTs (X.blk s H scope (compEnvC scope cl Ca X.env) fp) ifs (tT T W0 ct))
    (he : ∀ (s : Shared) (H : Hp) (Ca : Addr) (cl : List (Str × Addr)) (fp : List Addr), Cxt (X.blk s H scope (compEnvC scope cl Ca X.env) fp) T W0 k l' m' → PE (X.blk s H scope (compEnvC scope cl Ca X.env) fp) elt (tE T W0 fe)) (hs : ∀ x, foldedSetIterable iter X.env x = pure x) :
    PS X (.Assign [.Name y py] (.ListComp elt [⟨tg, iter, ifs, 0⟩] scope pos) spos) (tS T W P (sSet keep i (sLc (own.map (·.2)) it g ct fe))) :=
  s_setLc C.calm C.nd (fun h => by rw [List.contains_iff_mem.mpr h] at hP; cases hP) hy hyl hsw hi (blkOk_by hb) (fun i hi => List.contains_iff_mem.mp (List.all_eq_true.mp hL i hi)) (fun s H Ca cl fp => hg s H Ca cl fp (C.blk h1 h2 s H Ca cl fp)) (fun s H Ca cl fp => ht s H Ca cl fp (C.blk h1 h2 s H Ca cl fp)) (fun s H Ca cl fp => he s H Ca cl fp (C.blk h1 h2 s H Ca cl fp)) hs
theorem par_ (C : Cxt X T W k l m) {q1 q2 : Bool} {i j : Nat} {x y : Str} {px py pt pt2 : Pos} {kt k2 : Nat} (hPi : P.contains i = false) (hPj : P.contains j = false) (hi : X.N[i]? = some x) (hj : X.N[j]? = some y) (hij : i ≠ j)
    (hx : X.env.scope.names.lookup x = some .local) (hy : X.env.scope.names.lookup y = some .local) (ha : PE X a (tE T W fa)) (hb : PE X b (tE T W fb))
    (h1 : starEach [a, b] X.env = (false, eval a X.env) :: starEach [b] X.env) (h2 : starEach [b] X.env = (false, eval b X.env) :: starEach [] X.env)
    (hw : swappedStores [.Tuple [.Name x px, .Name y py] kt pt] (.Tuple [a, b] k2 pt2) X.env = pure (some [x, y]))
    (hs : swapsWithSole [.Tuple [.Name x px, .Name y py] kt pt] (.Tuple [a, b] k2 pt2) pos.line X.env = pure false) :
    PS X (.Assign [.Tuple [.Name x px, .Name y py] kt pt] (.Tuple [a, b] k2 pt2) pos) (tS T W P (sPar q1 q2 i j fa fb)) :=
  s_par C.calm (fun h => by rw [List.contains_iff_mem.mpr h] at hPi; cases hPi) (fun h => by rw [List.contains_iff_mem.mpr h] at hPj; cases hPj) C.nd hi hj hij hx hy ha hb h1 h2 hw hs
theorem parC_ (C : Cxt X T W k l m) {q1 q2 : Bool} {i j : Nat} {x y : Str} {px py pt pt2 : Pos} {kt k2 : Nat} (hPi : P.contains i = false) (hPj : P.contains j = false) (hi : X.N[i]? = some x) (hj : X.N[j]? = some y)
    (hx : m.contains i = true) (hy : m.contains j = true) (ha : PE X a (tE T W fa)) (hb : PE X b (tE T W fb))
    (h1 : starEach [a, b] X.env = (false, eval a X.env) :: starEach [b] X.env) (h2 : starEach [b] X.env = (false, eval b X.env) :: starEach [] X.env)
    (hw : swappedStores [.Tuple [.Name x px, .Name y py] kt pt] (.Tuple [a, b] k2 pt2) X.env = pure none)
    (hs : swapsWithSole [.Tuple [.Name x px, .Name y py] kt pt] (.Tuple [a, b] k2 pt2) pos.line X.env = pure false) :
    PS X (.Assign [.Tuple [.Name x px, .Name y py] kt pt] (.Tuple [a, b] k2 pt2) pos) (tS T W P (sPar q1 q2 i j fa fb)) :=
  s_parC C.calm (fun h => by rw [List.contains_iff_mem.mpr h] at hPi; cases hPi) (fun h => by rw [List.contains_iff_mem.mpr h] at hPj; cases hPj) C.nd C.hK hi hj (C.loc i x hx hi) (C.loc j y hy hj) ha hb h1 h2 rfl rfl rfl rfl hw hs rfl
theorem asg_ {L : List Nat} {g : SG} {tg : Expr} (hP : (P.all fun i => !(L.contains i)) = true) (he : PE X e (tE T W f)) (hg : PG X tg (tG T L g)) (hs : swapsWithSole [tg] e pos.line X.env = pure false) (hw : swappedStores [tg] e X.env = pure none) (h1 : (assignEach [tg] X.env).map (·.2) = [assign tg X.env]) :
    PS X (.Assign [tg] e pos) (tS T W P (sAsg f g)) := s_asg (dne hP) he hg hs hw h1
theorem for_ (C : Cxt X T W k l m) (hp : PassesOwn (model X.prog X.w) X.A X.env X.xe) {L : List Nat} {g : SG} {it : SI} {b : SS} {tg iter : Expr} {body : List Stmt} (hP : (P.all fun i => !(L.contains i)) = true) (hi : PI X tg iter (tI T W it)) (hg : PG X tg (tG T L g)) (hb : PSs X body (tS T W P b)) (hs : ∀ x, foldedSetIterable iter X.env x = pure x) :
    PS X (.For tg iter body [] pos) (tS T W P (sFor it g b)) := s_for (dne hP) hp C.calm hi hg hb hs
theorem app_ (C : Cxt X T W k l m) {i : Nat} {x : Str} {cpos : Pos} (hN : X.N[i]? = some x) (hl : l.contains i = true) (he : PE X e (tE T W f))
    (hfew : ((backTo cpos (starEach [e] X.env)).all (fun x => !x.1) && (backToKw cpos (keywordEach [] X.env)).all (fun x => x.1.isSome) && decide ([e].length + ([] : List Keyword).length + (if ([] : List Keyword).isEmpty then 0 else 1) < 30)) = true)
    (hline : (apos.endLine == cpos.line) = true) (hs : starEach [e] X.env = (false, eval e X.env) :: starEach [] X.env) (hbase : attributeBase (.Name x p1) "append" X.env (eval (.Name x p1) X.env) = eval (.Name x p1) X.env)
    (hsw : swapsWith (.Call (.Attribute (.Name x p1) "append" apos) [e] [] cpos) none pos.line X.env = pure false) :
    PS X (.Expr (.Call (.Attribute (.Name x p1) "append" apos) [e] [] cpos) pos) (tS T W P (sAppend i f)) :=
  s_append C.hK hN (C.vis i x hl hN).1 (C.vis i x hl hN).2.1 (C.vis i x hl hN).2.2 he hfew hline hs hbase hsw
theorem setL_ (C : Cxt X T W k l m) {i : Nat} {x : Str} {ix : Expr} {fi : SE} (hN : X.N[i]? = some x) (hl : l.contains i = true) (he : PE X e (tE T W f)) (hi : PE X ix (tE T W fi))
    (hs : swapsWithSole [.Subscript (.Name x p1) ix p2] e pos.line X.env = pure false) (hw : swappedStores [.Subscript (.Name x p1) ix p2] e X.env = pure none)
    (ha : ∀ v, assign (.Subscript (.Name x p1) ix p2) X.env v = (do
      let ov ← holding [v] (eval (.Name x p1) X.env)
      let iv ← holding [v, ov] (eval ix X.env)
      standAt p2
      holding [v, ov, iv] (setItem ov iv v)
      release [v, ov, iv] [])) (h1 : (assignEach [.Subscript (.Name x p1) ix p2] X.env).map (·.2) = [assign (.Subscript (.Name x p1) ix p2) X.env]) :
    PS X (.Assign [.Subscript (.Name x p1) ix p2] e pos) (tS T W P (sSetL i fi f)) :=
  s_setL hN (C.vis i x hl hN).1 (C.vis i x hl hN).2.1 (C.vis i x hl hN).2.2 he hi hs hw ha h1
end
end FK
set_option Elab.async false
set_option linter.all false
set_option maxRecDepth 100000
set_option maxHeartbeats 2000000
/-! FK 16b: list(zip(a, b)). -/
namespace PySem.LZ
open PySem PySem.SeqAt PyProof.Rows PySem.W
theorem zl1 : typeLookup (.type "zip") "__len__" = pure none := by rw [typeLookup_type, builtinLookup_eq_fast]; kernel_rfl
theorem zl2 : typeLookup (.type "zip") "__length_hint__" = pure none := by rw [typeLookup_type, builtinLookup_eq_fast]; kernel_rfl
structure Ats (z TI TO i1 i2 l1 l2 S : Addr) : Prop where
  D : ZipApart z TI TO i1 i2 l1 l2
  Sz : S ≠ z
  STI : S ≠ TI
  STO : S ≠ TO
  S1 : S ≠ i1
  S2 : S ≠ i2
  Sl1 : S ≠ l1
  Sl2 : S ≠ l2
def ZSt (z TI TO i1 i2 l1 l2 S : Addr) (xs ys : Array Value) (i : Nat) (h : Heap) : Prop := IsPair h TI (.ref i1) (.ref i2) ∧ h.IsListIter i1 l1 i ∧ h.IsListIter i2 l2 i ∧ h.IsList l1 xs ∧ h.IsList l2 ys ∧
  ((IsZip h z TI TO .none ∧ ∃ a b, IsPair h TO a b) ∨ ∃ T f oT, IsZipHeld h z TI TO T f ∧ h.get? T = some oT ∧ T ≠ z ∧ T ≠ i1 ∧ T ≠ i2 ∧ T ≠ S)
theorem ZSt.up {z TI TO i1 i2 l1 l2 S : Addr} {xs ys : Array Value} {i : Nat} {h h' : Heap} (A : Ats z TI TO i1 i2 l1 l2 S) (q : ZSt z TI TO i1 i2 l1 l2 S xs ys i h) (e : ∀ b o, b ≠ S → h.get? b = some o → h'.get? b = some o) : ZSt z TI TO i1 i2 l1 l2 S xs ys i h' := by
  obtain ⟨q1, q2, q3, q4, q5, q6⟩ := q
  refine ⟨e _ _ A.STI.symm q1, q2.at fun o k => e _ o A.S1.symm k, q3.at fun o k => e _ o A.S2.symm k, q4.at fun o k => e _ o A.Sl1.symm k, q5.at fun o k => e _ o A.Sl2.symm k, ?_⟩
  rcases q6 with ⟨u1, a, b, u2⟩ | ⟨T, f, oT, u1, u2, u3, u4, u5, u6⟩
  · exact .inl ⟨e _ _ A.Sz.symm u1, a, b, e _ _ A.STO.symm u2⟩
  · exact .inr ⟨T, f, oT, e _ _ A.Sz.symm u1, e _ _ u6 u2, u3, u4, u5, u6⟩
structure Got (xs ys : Array Value) (lo : Addr) (h : Heap) (as : List Addr) : Prop where
  rise : as.Pairwise (· < ·)
  above : ∀ a ∈ as, lo ≤ a
  there : ∀ a ∈ as, a < h.objs.size
  pairs : ∀ (j : Nat) (a : Addr), as[j]? = some a → ∃ x y, xs[j]? = some x ∧ ys[j]? = some y ∧ h.get? a = some { cls := .type "tuple", data := .seq #[x, y] }
section
variable {prog : Program} {w : World} {A : Around} {s : Shared} {R : Result → Shared → Prop} {xs ys : Array Value} {z TI TO i1 i2 l1 l2 S : Addr}
theorem z_item {i : Nat} {x y : Value} {E : Value → Shared → Prop} {Q : Option Value → Shared → Prop} (T : Ats z TI TO i1 i2 l1 l2 S) (q : ZSt z TI TO i1 i2 l1 l2 S xs ys i s.heap) (hS : S < s.heap.objs.size) (hx : xs[i]? = some x) (hy : ys[i]? = some y)
    (hQ : ∀ h', ZSt z TI TO i1 i2 l1 l2 S xs ys (i + 1) h' → h'.get? s.heap.objs.size = some { cls := .type "tuple", data := .seq #[x, y] } → h'.objs.size = s.heap.objs.size + 1 →
      (∀ c o, c ≠ z → c ≠ TO → c ≠ i1 → c ≠ i2 → s.heap.get? c = some o → h'.get? c = some o) → Q (some (.ref s.heap.objs.size)) { s with heap := h' }) : wpAny (model prog w) A (pyNext (.ref z)) Q E s := by
  obtain ⟨q1, q2, q3, q4, q5, q6⟩ := q
  have D := T.D
  have lt : ∀ {c o}, s.heap.get? c = some o → s.heap.objs.size ≠ c := fun e => Nat.ne_of_gt (Heap.lt_size e)
  have n1 : s.heap.objs.size ≠ i1 := let ⟨_, e, _⟩ := q2; lt e
  have n2 : s.heap.objs.size ≠ i2 := let ⟨_, e, _⟩ := q3; lt e
  rcases q6 with ⟨u1, a, b, u2⟩ | ⟨T', f, oT, u1, u2, u3, u4, u5, u6⟩
  · refine wpAny_pyNext_zip_item D u1 q1 u2 q2 q3 q4 q5 hx hy fun h' a1 a2 a3 a4 a5 a6 hk => ?_
    exact hQ h' ⟨hk _ _ D.TIz D.TITO D.TIi1 D.TIi2 q1, a3, a4, q4.at fun o e => hk _ o D.l1z D.l1TO D.l1i1 D.l1i2 e, q5.at fun o e => hk _ o D.l2z D.l2TO D.l2i1 D.l2i2 e,
      .inr ⟨s.heap.objs.size, false, _, a1, a5, lt u1, n1, n2, Nat.ne_of_gt hS⟩⟩ a5 a6 hk
  · refine wpAny_pyNext_zip_item_held D u1 u2 q1 q2 q3 q4 q5 hx hy fun h' a1 a3 a4 a5 a6 hk => ?_
    exact hQ h' ⟨hk _ _ D.TIz D.TIi1 D.TIi2 q1, a3, a4, q4.at fun o e => hk _ o D.l1z D.l1i1 D.l1i2 e, q5.at fun o e => hk _ o D.l2z D.l2i1 D.l2i2 e,
      .inr ⟨T', true, oT, a1, hk _ _ u3 u4 u5 u2, u3, u4, u5, u6⟩⟩ a5 a6 fun c o c1 _ c2 c3 e => hk c o c1 c2 c3 e
theorem z_done {i : Nat} {E : Value → Shared → Prop} {Q : Option Value → Shared → Prop} (hh : A.handled = none) (T : Ats z TI TO i1 i2 l1 l2 S) (q : ZSt z TI TO i1 i2 l1 l2 S xs ys i s.heap) (he : xs[i]? = none ∨ ys[i]? = none)
    (hQ : ∀ h', (∀ c o, c ≠ z → c ≠ TO → c ≠ i1 → c ≠ i2 → s.heap.get? c = some o → h'.get? c = some o) → Q none { s with heap := h' }) : wpAny (model prog w) A (pyNext (.ref z)) Q E s := by
  obtain ⟨q1, q2, q3, q4, q5, q6⟩ := q
  rcases q6 with ⟨u1, a, b, u2⟩ | ⟨T', f, oT, u1, u2, u3, u4, u5, u6⟩
  · exact wpAny_pyNext_zip_end hh T.D u1 q1 u2 q2 q3 q4 q5 he hQ
  · exact wpAny_pyNext_zip_end_held hh T.D u1 u2 q1 q2 q3 q4 q5 he fun h' hk => hQ h' fun c o c1 _ c2 c3 e => hk c o c1 c2 c3 e
theorem z_loop (hh : A.handled = none) (T : Ats z TI TO i1 i2 l1 l2 S) (hn : min xs.size ys.size ≤ sizeLine) (res : Value) {lo : Addr} (lows : z < lo ∧ TO < lo ∧ i1 < lo ∧ i2 < lo ∧ S < lo) {N : Nat} {h₁ : Heap} (hN : N ≤ z ∧ N ≤ TO ∧ N ≤ i1 ∧ N ≤ i2 ∧ N ≤ S) (hs1 : h₁.objs.size ≤ N)
    (hR : ∀ h' tk acc c as, (∀ b o, h₁.get? b = some o → h'.get? b = some o) → h'.get? S = some { cls := .type "list", dict := none, data := .seq acc c, slots := #[] } → as.length = min xs.size ys.size → Got xs ys lo h' as →
      acc.toList = as.map Value.ref → R (.ok (.ret res)) { s with heap := h', toks := tk }) :
    ∀ (k i : Nat) (h : Heap) (tk c : Nat) (acc : Array Value) (as : List Addr), min xs.size ys.size - i = k → i ≤ min xs.size ys.size → ZSt z TI TO i1 i2 l1 l2 S xs ys i h → (∀ b o, h₁.get? b = some o → h.get? b = some o) →
      h.get? S = some { cls := .type "list", dict := none, data := .seq acc c, slots := #[] } → acc.toList = as.map Value.ref → as.length = i → Got xs ys lo h as → lo ≤ h.objs.size →
      codeAny (model prog w) A (.builtin "list.extend.loop" ⟨[.ref S, .ref z, res], []⟩) R { s with heap := h, toks := tk } := by
  have old : ∀ {b o}, h₁.get? b = some o → b ≠ z ∧ b ≠ TO ∧ b ≠ i1 ∧ b ≠ i2 ∧ b ≠ S := fun {b o} e => by
    have hb : b < h₁.objs.size := Heap.lt_size e
    have hb2 : b < N := Nat.lt_of_lt_of_le hb hs1
    obtain ⟨n1, n2, n3, n4, n5⟩ := hN
    exact ⟨Nat.ne_of_lt (Nat.lt_of_lt_of_le hb2 n1), Nat.ne_of_lt (Nat.lt_of_lt_of_le hb2 n2), Nat.ne_of_lt (Nat.lt_of_lt_of_le hb2 n3), Nat.ne_of_lt (Nat.lt_of_lt_of_le hb2 n4), Nat.ne_of_lt (Nat.lt_of_lt_of_le hb2 n5)⟩
  have far : ∀ {a : Addr}, lo ≤ a → a ≠ z ∧ a ≠ TO ∧ a ≠ i1 ∧ a ≠ i2 ∧ a ≠ S := fun {a} e => by
    obtain ⟨n1, n2, n3, n4, n5⟩ := lows
    exact ⟨Nat.ne_of_gt (Nat.lt_of_lt_of_le n1 e), Nat.ne_of_gt (Nat.lt_of_lt_of_le n2 e), Nat.ne_of_gt (Nat.lt_of_lt_of_le n3 e), Nat.ne_of_gt (Nat.lt_of_lt_of_le n4 e), Nat.ne_of_gt (Nat.lt_of_lt_of_le n5 e)⟩
  intro k
  induction k with
  | zero =>
    intro i h tk c acc as hk hi hst hkeep hS hacc hal hG hlo
    have hin : i = min xs.size ys.size := by omega
    have hend : xs[i]? = none ∨ ys[i]? = none := by
      rcases Nat.le_total xs.size ys.size with q | q
      · exact .inl (Array.getElem?_eq_none (by omega))
      · exact .inr (Array.getElem?_eq_none (by omega))
    refine codeAny_builtin PySem.F.entry_extend_loop ?_
    rw [Around.under_plainId PySem.F.plain_extend_loop _]
    show wpAny _ A.in1 (pyNext (.ref z) >>= _) _ _ _
    refine wpAny_bind (z_done (s := { s with heap := h, toks := tk }) (A := A.in1) hh T hst hend fun h' he => ?_)
    refine wpAny_pure (hR h' tk acc c as (fun b o e => ?_) (he S _ T.Sz T.STO T.S1 T.S2 hS) (by omega) ⟨hG.rise, hG.above, fun a ha => ?_, fun j a hj => ?_⟩ hacc)
    · obtain ⟨m1, m2, m3, m4, _⟩ := old e
      exact he b o m1 m2 m3 m4 (hkeep b o e)
    · obtain ⟨j, hj⟩ := List.mem_iff_getElem?.mp ha
      obtain ⟨x, y, _, _, e3⟩ := hG.pairs j a hj
      obtain ⟨m1, m2, m3, m4, _⟩ := far (hG.above a ha)
      exact Heap.lt_size (he a _ m1 m2 m3 m4 e3)
    · obtain ⟨x, y, e1, e2, e3⟩ := hG.pairs j a hj
      obtain ⟨m1, m2, m3, m4, _⟩ := far (hG.above a (List.mem_of_getElem? hj))
      exact ⟨x, y, e1, e2, he a _ m1 m2 m3 m4 e3⟩
  | succ k ih =>
    intro i h tk c acc as hk hi hst hkeep hS hacc hal hG hlo
    have hlt : i < min xs.size ys.size := by omega
    have ex := Array.getElem?_eq_getElem (show i < xs.size by omega)
    have ey := Array.getElem?_eq_getElem (show i < ys.size by omega)
    have hsz : acc.size = i := by rw [← Array.length_toList, hacc, List.length_map, hal]
    have hSl : S < h.objs.size := Heap.lt_size hS
    refine codeAny_builtin PySem.F.entry_extend_loop ?_
    rw [Around.under_plainId PySem.F.plain_extend_loop _]
    show wpAny _ A.in1 (pyNext (.ref z) >>= _) _ _ _
    refine wpAny_bind (z_item (s := { s with heap := h, toks := tk }) (A := A.in1) T hst hSl ex ey fun h' hst' ht hz hkp => ?_)
    dsimp only at ht hz hkp ⊢
    have hS' := hkp S _ T.Sz T.STO T.S1 T.S2 hS
    have up : ∀ b o, b ≠ S → h'.get? b = some o → (h'.update S (Obj.mapSeq (·.push (Value.ref h.objs.size)))).get? b = some o := fun b o hb e => (Heap.get?_update_other _ _ (Ne.symm hb)).trans e
    show wpAny _ A.in1 (updateSeq S (·.push (Value.ref h.objs.size)) >>= _) _ _ _
    refine wpAny_bind ?_
    have hnew : (h'.update S (Obj.mapSeq (·.push (Value.ref h.objs.size)))).get? h.objs.size = some { cls := .type "tuple", data := .seq #[xs[i], ys[i]] } := up _ _ (Nat.ne_of_gt hSl) ht
    refine wpAny_updateSeq hS' rfl (wpAny_pure ⟨plainId_quiet PySem.F.plain_extend_loop _, ih (i + 1) _ tk _ (acc.push (Value.ref h.objs.size)) (as ++ [h.objs.size]) (by omega) hlt (hst'.up T up) (fun b o e => ?_) (Heap.get?_update_self _ hS' rfl) (by rw [Array.toList_push, hacc, List.map_append]; rfl) (by rw [List.length_append, hal]; rfl) ⟨?_, ?_, ?_, ?_⟩ ?_⟩) (by rw [hsz]; omega) (by show (acc.push (Value.ref h.objs.size)).size ≤ sizeLine + 1; rw [Array.size_push, hsz]; omega)
    · obtain ⟨m1, m2, m3, m4, m5⟩ := old e
      exact up b o m5 (hkp b o m1 m2 m3 m4 (hkeep b o e))
    · refine List.pairwise_append.mpr ⟨hG.rise, List.pairwise_singleton _ _, fun a ha b hb => ?_⟩
      rw [List.mem_singleton.mp hb]
      exact hG.there a ha
    · intro a ha
      rcases List.mem_append.mp ha with ha | ha
      · exact hG.above a ha
      · rw [List.mem_singleton.mp ha]; exact hlo
    · intro a ha
      rcases List.mem_append.mp ha with ha | ha
      · exact Nat.lt_trans (hG.there a ha) (Heap.lt_size hnew)
      · rw [List.mem_singleton.mp ha]; exact Heap.lt_size hnew
    · intro j b hj
      rcases Nat.lt_trichotomy j as.length with g1 | g1 | g1
      · rw [List.getElem?_append_left g1] at hj
        obtain ⟨x, y, e1, e2, e3⟩ := hG.pairs j b hj
        obtain ⟨m1, m2, m3, m4, m5⟩ := far (hG.above b (List.mem_of_getElem? hj))
        exact ⟨x, y, e1, e2, up b _ m5 (hkp b _ m1 m2 m3 m4 e3)⟩
      · subst g1
        have hb : h.objs.size = b := by simpa using hj
        subst hb
        subst hal
        exact ⟨_, _, ex, ey, hnew⟩
      · rw [List.getElem?_eq_none (by rw [List.length_append, List.length_singleton]; omega)] at hj
        cases hj
    · exact Nat.le_of_lt (Nat.lt_of_le_of_lt hlo (Heap.lt_size hnew))
theorem z_list {Q : Value → Shared → Prop} {E : Value → Shared → Prop} (hh : A.handled = none) (D : ZipApart z TI TO i1 i2 l1 l2) (hn : min xs.size ys.size ≤ sizeLine) {N : Nat} {h₁ : Heap} (hN : N ≤ z ∧ N ≤ TO ∧ N ≤ i1 ∧ N ≤ i2) (hs1 : h₁.objs.size ≤ N)
    (hk1 : ∀ b o, h₁.get? b = some o → s.heap.get? b = some o) (hz : IsZip s.heap z TI TO .none) (hTI : IsPair s.heap TI (.ref i1) (.ref i2)) (hTO : ∃ a b, IsPair s.heap TO a b) (q1 : s.heap.IsListIter i1 l1 0) (q2 : s.heap.IsListIter i2 l2 0) (hl1 : s.heap.IsList l1 xs) (hl2 : s.heap.IsList l2 ys)
    (hQ : ∀ h' tk acc c as, (∀ b o, h₁.get? b = some o → h'.get? b = some o) → h'.get? s.heap.objs.size = some { cls := .type "list", dict := none, data := .seq acc c, slots := #[] } → as.length = min xs.size ys.size → Got xs ys (s.heap.objs.size + 1) h' as →
      acc.toList = as.map Value.ref → Q (.ref s.heap.objs.size) { s with heap := h', toks := tk }) : wpAny (model prog w) A (call (.type "list") [.ref z]) Q E s := by
  refine callType_codes (Q₁ := fun obj s₁ => obj = .ref s.heap.objs.size ∧ s₁ = { s with heap := s.heap.push { cls := .type "list", data := .seq #[] } }) PySem.F.called_list (PySem.F.typeCall_list_1 _) PySem.F.entry_list_init (code_list_new _ ⟨rfl, rfl⟩) fun obj s₁ h₂ => ?_
  obtain ⟨rfl, rfl⟩ := h₂
  have hS : (s.heap.push { cls := .type "list", data := .seq #[] }).get? s.heap.objs.size = some { cls := .type "list", data := .seq #[] } := Heap.get?_push_size _ rfl
  have lz : z < s.heap.objs.size := Heap.lt_size hz
  have lTI : TI < s.heap.objs.size := Heap.lt_size hTI
  have lTO : TO < s.heap.objs.size := by obtain ⟨_, _, e⟩ := hTO; exact Heap.lt_size e
  have li1 : i1 < s.heap.objs.size := by obtain ⟨_, e, _⟩ := id q1; exact Heap.lt_size e
  have li2 : i2 < s.heap.objs.size := by obtain ⟨_, e, _⟩ := id q2; exact Heap.lt_size e
  have ll1 : l1 < s.heap.objs.size := by obtain ⟨_, e, _⟩ := id hl1; exact Heap.lt_size e
  have ll2 : l2 < s.heap.objs.size := by obtain ⟨_, e, _⟩ := id hl2; exact Heap.lt_size e
  have T : Ats z TI TO i1 i2 l1 l2 s.heap.objs.size := ⟨D, Nat.ne_of_gt lz, Nat.ne_of_gt lTI, Nat.ne_of_gt lTO, Nat.ne_of_gt li1, Nat.ne_of_gt li2, Nat.ne_of_gt ll1, Nat.ne_of_gt ll2⟩
  have st0 : ZSt z TI TO i1 i2 l1 l2 s.heap.objs.size xs ys 0 s.heap := ⟨hTI, q1, q2, hl1, hl2, .inl ⟨hz, hTO⟩⟩
  refine ⟨⟨_, hS, rfl⟩, PySem.F.args_list_init_2 _ _, ?_⟩
  show wpAny _ _ (do let old ← Builtin.List.listItems (.ref s.heap.objs.size); Builtin.List.listUpdate (.ref s.heap.objs.size) (fun _ => #[]); letGo old.toList.reverse; Builtin.List.listExtendWith (.ref s.heap.objs.size) (.ref z) .none) _ _ _
  refine wpAny_bind ?_
  unfold Builtin.List.listItems
  refine wpAny_bind (wpAny_seqItems hS rfl (wpAny_pure ?_))
  show wpAny _ _ (updateSeq s.heap.objs.size (fun _ => #[]) >>= fun _ => letGo (#[] : Array Value).toList.reverse >>= fun _ => Builtin.List.listExtendWith (.ref s.heap.objs.size) (.ref z) .none) _ _ _
  refine wpAny_bind (wpAny_updateSeq hS rfl ?_)
  have hS₂ := Heap.get?_update_self (Obj.mapSeq (fun _ => (#[] : Array Value))) hS rfl
  have oth : ∀ b o, b ≠ s.heap.objs.size → (s.heap.push { cls := .type "list", data := .seq #[] }).get? b = some o → ((s.heap.push { cls := .type "list", data := .seq #[] }).update s.heap.objs.size (Obj.mapSeq (fun _ => (#[] : Array Value)))).get? b = some o :=
    fun b o hb e => (Heap.get?_update_other _ _ (Ne.symm hb)).trans e
  refine wpAny_bind (wpAny_letGo ?_)
  generalize hH : ((s.heap.push { cls := .type "list", data := .seq #[] }).update s.heap.objs.size (Obj.mapSeq (fun _ => (#[] : Array Value)))) = H2 at *
  have st2 : ZSt z TI TO i1 i2 l1 l2 s.heap.objs.size xs ys 0 H2 := st0.up T fun b o hb e => oth b o hb (Heap.get?_push_of_some _ e)
  have kp2 : ∀ b o, h₁.get? b = some o → H2.get? b = some o := fun b o e => by
    have lb := Heap.lt_size (hk1 b o e)
    exact oth b o (Nat.ne_of_lt lb) (Heap.get?_push_of_some _ (hk1 b o e))
  have hT : ∀ tk : Nat, (Shared.TypeIs { s with heap := H2, toks := tk } (.ref z) "zip") := fun tk => by
    obtain ⟨_, _, _, _, _, q6⟩ := st2
    rcases q6 with ⟨u, _⟩ | ⟨_, _, _, u, _⟩
    · exact ⟨_, u, rfl⟩
    · exact ⟨_, u, rfl⟩
  have hZ : IsZip H2 z TI TO .none := by
    have := oth z _ (Nat.ne_of_lt lz) (Heap.get?_push_of_some { cls := .type "list", data := .seq #[] } hz)
    exact this
  unfold Builtin.List.listExtendWith
  refine wpAny_bind (wpAny_typeOf (T := "zip") (hT s.toks) ?_)
  have e1 : Builtin.List.listSameRef (.ref s.heap.objs.size) (.ref z) = false := by simp [Builtin.List.listSameRef, T.Sz]
  have e2 : (Value.type "zip" == Value.type "list") = false := by decide
  have e3 : (Value.type "zip" == Value.type "tuple") = false := by decide
  simp only [e1, e2, e3, Bool.or_false, Bool.false_eq_true, if_false]
  refine wpAny_bind (wpAny_pyIter_zip hZ ?_)
  refine wpAny_bind (wpAny_holding ?_)
  unfold Builtin.List.listLengthHint
  refine wpAny_bind (wpAny_specialOf (hT s.toks) zl1 ?_)
  show wpAny _ _ (specialOf (Value.ref z) (Str.ofString "__length_hint__") >>= _) _ _ _
  refine wpAny_bind (wpAny_specialOf (hT s.toks) zl2 ?_)
  refine wpAny_pure ?_
  show wpAny _ _ (rule "list.extend.makes-room" >>= fun _ => Builtin.List.listTouch (.ref s.heap.objs.size) >>= fun _ => again (.builtin "list.extend.loop" ⟨[.ref s.heap.objs.size, .ref z, .none], []⟩)) _ _ _
  refine wpAny_bind (wpAny_rule ?_)
  refine wpAny_bind ?_
  show wpAny _ _ (updateSeq s.heap.objs.size (·.push .none) >>= fun _ => updateSeq s.heap.objs.size (·.pop)) _ _ _
  refine wpAny_bind (wpAny_updateSeq hS₂ rfl ?_)
  have hS₃ := Heap.get?_update_self (Obj.mapSeq (·.push Value.none)) hS₂ rfl
  refine wpAny_updateSeq (hz := by seq_fits) hS₃ rfl ?_
  have hS₄ := Heap.get?_update_self (Obj.mapSeq (·.pop)) hS₃ rfl
  have ot2 : ∀ b o, b ≠ s.heap.objs.size → H2.get? b = some o → ((H2.update s.heap.objs.size (Obj.mapSeq (·.push Value.none))).update s.heap.objs.size (Obj.mapSeq (·.pop))).get? b = some o :=
    fun b o hb e => (Heap.get?_update_other _ _ (Ne.symm hb)).trans ((Heap.get?_update_other _ _ (Ne.symm hb)).trans e)
  refine wpAny_pure ⟨plainId_quiet PySem.F.plain_extend_loop _, z_loop (A := A.in1) (s := s) (xs := xs) (ys := ys) hh T hn .none (lo := s.heap.objs.size + 1) ⟨Nat.lt_succ_of_lt lz, Nat.lt_succ_of_lt lTO, Nat.lt_succ_of_lt li1, Nat.lt_succ_of_lt li2, Nat.lt_succ_self _⟩ (N := N) (h₁ := h₁) ⟨hN.1, hN.2.1, hN.2.2.1, hN.2.2.2, Nat.le_trans hN.1 (Nat.le_of_lt lz)⟩ hs1
    (fun h' tk acc c as g1 g2 g3 g4 g5 => ?_) (min xs.size ys.size) 0 _ s.toks _ #[] [] (Nat.sub_zero _) (Nat.zero_le _) (st2.up T ot2) (fun b o e => ot2 b o (Nat.ne_of_lt (Heap.lt_size (hk1 b o e))) (kp2 b o e)) hS₄ rfl rfl ⟨List.Pairwise.nil, (fun _ ha => nomatch ha), (fun _ ha => nomatch ha), (fun j a hj => by simp at hj)⟩ (Nat.succ_le_of_lt (Heap.lt_size hS₄))⟩
  exact ⟨rfl, hQ h' tk acc c as g1 g2 g3 g4 g5⟩
end
end PySem.LZ
set_option Elab.async false
set_option linter.all false
set_option maxRecDepth 100000
set_option maxHeartbeats 2000000
/-! FK 16c: list(zip(a, b)), in the abstract heap. -/
namespace FK
open PySem PySem.Spec PyProof.Rows L2
def gLz : List D → Option B
  | [.list xs, .list ys] => if (pairsAt xs ys).length ≤ sizeLine then some (.ow (.list (pairsAt xs ys))) else none
  | _ => none
open Classical in
/-- the pairs and their list, laid -/
noncomputable def putZ (H : Hp) (S : Addr) (as : List Addr) (vs ws : List V) : Hp := fun b =>
  if b = S then some (.lst (as.map V.ref)) else if h : ∃ j, as[j]? = some b then some (.tup [vs.getD (choose h) .non, ws.getD (choose h) .non]) else H b
theorem RepL.of_get {K : Fg} {H : Hp} : ∀ {vs : List V} {ds : List D}, vs.length = ds.length → (∀ (j : Nat) (v : V) (d : D), vs[j]? = some v → ds[j]? = some d → Rep K H v d) → RepL K H vs ds
  | [], [], _, _ => .nil
  | [], _ :: _, h, _ => by simp at h
  | _ :: _, [], h, _ => by simp at h
  | v :: vs, d :: ds, h, q => .cons (q 0 v d rfl rfl) (RepL.of_get (by simpa using h) fun j v d h1 h2 => q (j + 1) v d (by simpa using h1) (by simpa using h2))
section
variable {X : Cx} {pins : List (Addr × Obj)} {σ : L2.St} {H : Hp} {s : Shared} {h' : Heap} {tk : Nat} {vs ws : List V} {us ts : List Value} {acc : Array Value} {c : Nat} {as : List Addr} {S lo : Addr}
theorem refs_vals : ∀ as : List Addr, Vals (as.map V.ref) (as.map Value.ref)
  | [] => .nil
  | _ :: as => .cons rfl (refs_vals as)
theorem putZ_S : putZ H S as vs ws S = some (.lst (as.map V.ref)) := if_pos rfl
theorem putZ_off {b : Addr} (h1 : b ≠ S) (h2 : b ∉ as) : putZ H S as vs ws b = H b := by
  unfold putZ
  rw [if_neg h1, dif_neg fun ⟨j, hj⟩ => h2 (List.mem_of_getElem? hj)]
theorem putZ_at {b : Addr} {j : Nat} (nd : as.Nodup) (h1 : b ≠ S) (h2 : as[j]? = some b) : putZ H S as vs ws b = some (.tup [vs.getD j .non, ws.getD j .non]) := by
  unfold putZ
  have hx : ∃ j, as[j]? = some b := ⟨j, h2⟩
  rw [if_neg h1, dif_pos hx]
  have hc := Classical.choose_spec hx
  have e : Classical.choose hx = j := by
    have l1 := (List.getElem?_eq_some_iff.mp hc)
    have l2 := (List.getElem?_eq_some_iff.mp h2)
    have pw := List.pairwise_iff_getElem.mp nd
    rcases Nat.lt_trichotomy (Classical.choose hx) j with q | q | q
    · exact absurd (l1.2.trans l2.2.symm) (pw _ _ l1.1 l2.1 q)
    · exact q
    · exact absurd (l2.2.trans l1.2.symm) (pw _ _ l2.1 l1.1 q)
  rw [e]
theorem laid_pairs (I : Inv X pins σ H s) (r1 : Vals vs us) (r2 : Vals ws ts) (hk : ∀ b o, s.heap.get? b = some o → h'.get? b = some o) (hlo : s.heap.objs.size ≤ S) (hlo2 : S < lo) (hS : h'.get? S = some { cls := .type "list", dict := none, data := .seq acc c, slots := #[] })
    (hz : as.length ≤ sizeLine) (hG : PySem.LZ.Got us.toArray ts.toArray lo h' as) (hacc : acc.toList = as.map Value.ref) : Inv X pins σ (putZ H S as vs ws) { s with heap := h', toks := tk } ∧ as.Nodup ∧ H S = none ∧ (∀ a ∈ as, H a = none ∧ a ≠ S) ∧
      ∀ (j : Nat) (a : Addr), as[j]? = some a → ∃ x y, vs[j]? = some x ∧ ws[j]? = some y ∧ putZ H S as vs ws a = some (.tup [x, y]) := by
  have nd : as.Nodup := List.Pairwise.imp (fun {a b} (h : a < b) => Nat.ne_of_lt h) hG.rise
  have newS : H S = none := I.hok.fresh hlo
  have ofar : ∀ a ∈ as, S < a := fun a ha => Nat.lt_of_lt_of_le hlo2 (hG.above a ha)
  have new : ∀ a ∈ as, H a = none ∧ a ≠ S := fun a ha => ⟨I.hok.fresh (Nat.le_trans hlo (Nat.le_of_lt (ofar a ha))), Nat.ne_of_gt (ofar a ha)⟩
  have at_ : ∀ (j : Nat) (a : Addr), as[j]? = some a → ∃ x y u t, vs[j]? = some x ∧ ws[j]? = some y ∧ putZ H S as vs ws a = some (.tup [x, y]) ∧ RelV x u ∧ RelV y t ∧ h'.get? a = some { cls := .type "tuple", data := .seq #[u, t] } := fun j a ha => by
    obtain ⟨u, t, e1, e2, e3⟩ := hG.pairs j a ha
    have e1 : us[j]? = some u := by simpa using e1
    have e2 : ts[j]? = some t := by simpa using e2
    have lv : j < vs.length := by rw [r1.length]; exact (List.getElem?_eq_some_iff.mp e1).1
    have lw : j < ws.length := by rw [r2.length]; exact (List.getElem?_eq_some_iff.mp e2).1
    have gx : vs[j]? = some vs[j] := List.getElem?_eq_getElem lv
    have gy : ws[j]? = some ws[j] := List.getElem?_eq_getElem lw
    obtain ⟨u', q1, q2⟩ := r1.get gx
    obtain ⟨t', q3, q4⟩ := r2.get gy
    rw [e1] at q1; cases q1
    rw [e2] at q3; cases q3
    refine ⟨vs[j], ws[j], u, t, gx, gy, ?_, q2, q4, e3⟩
    rw [putZ_at nd (new a (List.mem_of_getElem? ha)).2 ha, List.getD_eq_getElem?_getD, List.getD_eq_getElem?_getD, gx, gy]; rfl
  have kp : ∀ b u, H b = some u → putZ H S as vs ws b = some u := fun b u e => by
    rw [putZ_off (fun z => by rw [z, newS] at e; cases e) (fun z => by rw [(new b z).1] at e; cases e), e]
  refine ⟨?_, nd, newS, new, fun j a ha => by
    obtain ⟨x, y, _, _, q1, q2, q3, _⟩ := at_ j a ha
    exact ⟨x, y, q1, q2, q3⟩⟩
  refine I.call' (ch := []) rfl ⟨fun b o q _ _ _ => hk b o q, fun b o q _ _ _ => ⟨o.slots, hk b o q⟩, fun b o q n _ => ?_, fun b o q _ => ⟨o, hk b o q⟩, fun b xs q => kp b _ q, fun b o u q => kp b _ q, fun b ps q => ⟨#[], by rw [kp b _ q]; simp⟩⟩ (fun b u q => ?_) I.bare fun b z => by simp at z
  · have lb := Heap.lt_size q
    rw [putZ_off (Nat.ne_of_lt (Nat.lt_of_lt_of_le lb hlo)) fun z => absurd lb (Nat.not_lt.mpr (Nat.le_trans hlo (Nat.le_of_lt (ofar b z))))]
    exact n
  · by_cases hS2 : b = S
    · subst hS2
      rw [putZ_S] at q
      cases q
      refine ⟨by rw [List.length_map]; exact hz, acc.toList, c, by rw [hacc]; exact refs_vals as, ?_⟩
      rw [Array.toArray_toList]; exact hS
    · by_cases hb : b ∈ as
      · obtain ⟨j, hj⟩ := List.mem_iff_getElem?.mp hb
        obtain ⟨x, y, u', t', q1, q2, q3, q4, q5, q6⟩ := at_ j b hj
        rw [q3] at q
        cases q
        exact ⟨by show 2 ≤ sizeLine; decide, [u', t'], .cons q4 (.cons q5 .nil), ⟨_, q6, rfl, _, rfl⟩⟩
      · rw [putZ_off hS2 hb] at q
        exact (I.hok b u q).stay (fun d v _ y => hk d v y) (fun d y => kp d _ y) fun d xs y => kp d _ y
end
section
variable {X : Cx} {T : Tx} {W : WX} {k : Nat} {l m : List Nat} {a b : Expr} {fs : SA} {pos p p1 p2 : Pos}
theorem lz_ (C : Cxt X T W k l m) (h1 : X.mg "list" = none) (h2 : X.mg "zip" = none) (g1 : Gl X "list") (g2 : Gl X "zip") (ha : PA X [a, b] (tA T W fs))
    (hs : starEach [a, b] X.env = (false, eval a X.env) :: starEach [b] X.env) (hpl : (backTo p2 (starEach [b] X.env)).any (·.1) = false) (hs2 : starEach [.Call (.Name "zip" p1) [a, b] [] p2] X.env = (false, eval (.Call (.Name "zip" p1) [a, b] [] p2) X.env) :: starEach [] X.env) :
    PE X (.Call (.Name "list" p) [.Call (.Name "zip" p1) [a, b] [] p2] [] pos) (tE T W (sApp gLz fs)) := by
  refine ⟨fun pins s σ H Q I h => ?_⟩
  refine Call_ (ld_blt I g1 h1 boot_list (PyProof.Rows.callWith_type1 ?_ hs2 rfl))
  rw [hs2]
  show wpAny _ _ (spliced ((false, eval (.Call (.Name "zip" p1) [a, b] [] p2) X.env) :: backTo pos (starEach [] X.env))) _ _ s
  refine Calls.spliced_cons ?_
  obtain ⟨Hz, ρ, F, z, h⟩ := h
  refine Call_ (ld_blt I g2 h2 PyProof.Rows.boot_zip (PyProof.Rows.callWith_type1 (thn (ha.run p2 pins s σ H _ I ⟨Hz, ρ, F, z, Aft.bnd (P := PL T.K) h⟩) fun us s1 ⟨vs, H1, I1, r1, Hz1, F1, ds, ρ1, z1, s1', rl, q1⟩ => ?_) hs hpl))
  cases hg : gLz ds with
  | none => rw [hg] at q1; cases q1
  | some bb =>
    rw [hg] at q1
    unfold gLz at hg
    split at hg
    · rename_i es1 es2
      split at hg
      · rename_i hes
        cases hg
        have q1 : Aft T W Hz H F σ (PB T.K F) (.ok (.ow (.list (pairsAt es1 es2))) ρ1) Q := q1
        obtain ⟨v, vs', rfl, ra, t⟩ := RepL.ge rl
        obtain ⟨v2, vs2, rfl, rb, t2⟩ := RepL.ge t
        cases t2
        obtain ⟨u1, u2, rfl, rv1, rv2⟩ := vals2 r1
        cases ra with
        | @lst la xs _ ha1 ka =>
          cases rb with
          | @lst lb ys _ hb1 kb =>
            cases rv1; cases rv2
            obtain ⟨its, w1, pl1, _⟩ := I1.list (by rw [C.hK]; exact sqL_same z1.sub ha1)
            obtain ⟨its2, w2, pl2, _⟩ := I1.list (by rw [C.hK]; exact sqL_same z1.sub hb1)
            refine call_zip_2 pl1.isList pl2.isList fun h3 k1 k2 k3 k4 k5 k6 k7 => ?_
            refine Calls.spliced_nil ?_
            have l1 := w1.length; have l2 := w2.length; have l3 := ka.length; have l4 := kb.length
            have lmin : (pairsAt es1 es2).length = min its.toArray.size its2.toArray.size := by
              unfold pairsAt
              rw [List.length_zipWith, List.size_toArray, List.size_toArray]; omega
            refine PySem.LZ.z_list (s := { s1 with heap := h3 }) (I.ok.hd C.calm) (PySem.W.ktu_apart s1.heap.objs.size la lb pl1.lt pl2.lt) (by rw [← lmin]; exact hes) (N := s1.heap.objs.size) (h₁ := s1.heap) ⟨Nat.le_add_right _ _, Nat.le_add_right _ _, Nat.le_refl _, Nat.le_add_right _ _⟩ (Nat.le_refl _) k7 k1 k2 ⟨_, _, k3⟩ k4 k5
              (pl1.isList.at fun o e => k7 _ o e) (pl2.isList.at fun o e => k7 _ o e) fun h' tk acc c as m1 m2 m3 m4 m5 => ?_
            have m2 : h'.get? h3.objs.size = some { cls := .type "list", dict := none, data := .seq acc c, slots := #[] } := m2
            have m4 : PySem.LZ.Got its.toArray its2.toArray (h3.objs.size + 1) h' as := m4
            obtain ⟨J, nd, newS, new, at_⟩ := laid_pairs (tk := tk) (S := h3.objs.size) I1 w1 w2 m1 (by rw [k6]; exact Nat.le_add_right _ _) (Nat.lt_succ_self _) m2 (by rw [m3, ← lmin]; exact hes) m4 m5
            refine ⟨.ref h3.objs.size, putZ H1 h3.objs.size as xs ys, J, rfl, ?_⟩
            refine (q1.fromB s1').made z1 ?_
            have kp : Same H1 (putZ H1 h3.objs.size as xs ys) := fun b u e => by
              rw [putZ_off (fun z => by rw [z, newS] at e; cases e) (fun z => by rw [(new b z).1] at e; cases e), e]
            have sz : Same Hz1 (fun b => if b ∈ as then putZ H1 h3.objs.size as xs ys b else Hz1 b) := fun b u e => by
              show (if b ∈ as then _ else _) = _
              rw [if_neg (fun z => by rw [z1.sub.free (new b z).1] at e; cases e), e]
            refine ⟨fun b => if b ∈ as then putZ H1 h3.objs.size as xs ys b else Hz1 b, [h3.objs.size], sz, kp, fun b u e => ?_, fun b hb => ?_, ⟨h3.objs.size, rfl, rfl, as.map V.ref, putZ_S, ?_⟩, fun b hb => ?_⟩
            · have e : (if b ∈ as then putZ H1 h3.objs.size as xs ys b else Hz1 b) = some u := e
              by_cases hm : b ∈ as
              · rw [if_pos hm] at e; exact e
              · rw [if_neg hm] at e; exact kp b u (z1.sub b u e)
            · by_cases hm : b ∈ as
              · exact .inr (new b hm).1
              · have hb : (if b ∈ as then putZ H1 h3.objs.size as xs ys b else Hz1 b) ≠ none := hb
                rw [if_neg hm] at hb
                exact .inl hb
            · refine RepL.of_get (by rw [List.length_map, m3, lmin]) fun j v d hv hd => ?_
              rw [List.getElem?_map] at hv
              cases haj : as[j]? with
              | none => rw [haj] at hv; cases hv
              | some aa =>
                rw [haj] at hv
                cases hv
                obtain ⟨x, y, g1', g2', g3'⟩ := at_ j aa haj
                obtain ⟨dx, e1, e2⟩ := ka.get g1'
                obtain ⟨dy, e3, e4⟩ := kb.get g2'
                unfold pairsAt at hd
                rw [List.getElem?_zipWith, e1, e3] at hd
                cases hd
                refine .tup (xs := [x, y]) (.inl (.inl ?_)) (.cons (e2.mono sz) (.cons (e4.mono sz) .nil))
                show (if aa ∈ as then _ else _) = _
                rw [if_pos (List.mem_of_getElem? haj), g3']
            · have e : b = h3.objs.size := by simpa using hb
              subst e
              refine ⟨?_, newS⟩
              show (if h3.objs.size ∈ as then _ else _) = _
              rw [if_neg fun z => (new _ z).2 rfl, z1.sub.free newS]
      · cases hg
    · cases hg
end
end FK
set_option Elab.async false
set_option linter.all false
set_option maxRecDepth 100000
/-! FK 17: more expressions. -/
namespace FK
open PySem PySem.Spec PyProof.Rows L2
def sMk (b : B) : SE := fun ρ => .ok b ρ
section
variable {X : Cx} {T : Tx} {W : WX} {k : Nat} {l m : List Nat} {a b c e : Expr} {es : List Expr} {f fa fb fc : SE} {fs : SA} {fv : SAv} {ct et : STs} {P : List Nat} {pos p p1 p2 apos : Pos}
theorem New.dK {K : Fg} {Hz H : Hp} {p : Addr} (s : Same Hz H) (h : H p = none) : New K Hz H (.ow (.dict [])) (.ref p) (upd H p (.dK [])) :=
  ⟨Hz, [p], .refl _, same_push h, s.trans (same_push h), fun a e => .inl e, ⟨p, rfl, rfl, .inl ⟨[], upd_same, .nil⟩⟩, fun a ha => by
    have e : a = p := by simpa using ha
    subst e; exact ⟨s.free h, h⟩⟩
theorem e_dict0 : PE X (.Dict [] [] pos) (tE T W (sMk (.ow (.dict [])))) := PE.mono pe_dnewK fun σ H Q ⟨Hz, ρ, F, z, h⟩ => fun p hp => Aft.made (ρ := ρ) h z (.dK z.sub hp)
end
/-- the law's own call -/
theorem law_ends {K : Fg} {T : Tx} (hT : T.K = K) {pds : List PD} {i k : Nat} {a : Addr} {H : Hp} {ns : List Int} (hn : (pds.getD i PD.none).np = 1) (hS : SqL K H a (ns.map V.int)) (h : ∃ ρ, sem pds k i [.fr (.list (ns.map .int))] = .ok (.fr (.bool true)) ρ) :
    spF T (pds.getD i PD.none).np (sem pds k i) [.ref a] H (fun v _ => v = .bl true) fun _ _ _ => False := by
  subst hT
  obtain ⟨ρ', h⟩ := h
  refine ⟨by rw [hn]; rfl, H, [.fr (.list (ns.map .int))], fun _ => [], ⟨.refl _, rfl, fun j b hb hno => ?_, (fun _ _ h => nomatch h), (fun _ _ _ h => nomatch h), fun _ _ => rfl⟩, ?_⟩
  · cases j with
    | zero =>
      have e : b = .fr (.list (ns.map .int)) := by simpa using hb.symm
      subst e
      exact ⟨.ref a, rfl, rfl, .lst hS (RepL.ints ns)⟩
    | succ j => simp at hb
  · rw [h]
    intro v Hz' H' F' z st pb
    obtain ⟨fp, m, _⟩ := pb
    exact rep_bl m.2
theorem walk_E {l : PySem.W.OpenLaw} {n k : Nat} {q : Program} {loose : List Str} {XP : (Str → Option Value) → Heap → Prop} {YP : World → Heap → Prop} {d : DefRec} {x : Str}
    (hn : l.most = some n) (hn2 : n ≤ sizeLine) (hdf : d.params.defaults = []) (hr : Room k callerA)
    (F : ∀ (w : World) (mg : Str → Option Value) (fa : Addr) (h : Heap), YP w h → h.Ns mainGlobals mg → mg d.name = some (.ref fa) →
      ∃ (K : Fg) (fd : FuncData) (sp : Sp), K.In h ∧ (∀ (s : Shared) (u : Value), BindsTo s fd ⟨[u], []⟩ [(x, u)]) ∧
        (∀ (H : Hp) (a : Addr) (ns : List Int), ns.length ≤ n → (∀ z ∈ ns, Builtin.Int.intBits z ≤ 1048576) → SqL K H a (ns.map V.int) → sp [.ref a] H (fun v _ => v = .bl true) fun _ _ _ => False) ∧
        ∀ base : Heap, K.In base → base.Ns mainGlobals mg → FnOk l.prog w K mg base (L2.CX l.prog w) k fa fd [x] sp) :
    PySem.W.WalkO q loose XP YP l.row.toRowW d [] (fun f vs => PySem.call f vs) := by
  refine Att.attach_callB hn hdf fun w s₀ s₁ mg mb fa o pm cd doc a vs ns G Y ho hd hcd hmg hobj hints hlen hbits hg => ?_
  obtain ⟨K, fd, sp, KX, hb, hsp, hF⟩ := F w mg fa _ Y G.T.g hmg
  exact law_call KX G.T.g G.T.b G.T.builtins G.T.nolimit hg hobj hints (Nat.le_trans hlen hn2) hr hF hb (fun H _ hS => hsp H a ns hlen hbits hS) fun H e s' ⟨_, _, _, _, _, _, _, _, _, _, _, _, hE⟩ => hE
end FK
set_option Elab.async false
set_option linter.all false
set_option maxRecDepth 100000
/-! FK 18: the plain side: how closures answer. -/
namespace FK
open PySem PySem.Spec PyProof.Rows L2
open PySem.W (alike dataLt)
section
variable {α β : Type} {ρ ρ' : Env}
@[simp] theorem bnd_ok {a : α} {k : α → Env → Rs β} : (Rs.ok a ρ).bnd k = k a ρ := rfl
@[simp] theorem frd_fr {d : D} {k : D → Env → Rs β} : (Rs.ok (.fr d) ρ).frd k = k d ρ := rfl
@[simp] theorem frd_ow {d : D} {k : D → Env → Rs β} : (Rs.ok (.ow d) ρ).frd k = k d ρ := rfl
@[simp] theorem bS_ok {a : α} {k : α → Env → RS} : (Rs.ok a ρ).bS k = k a ρ := rfl
@[simp] theorem frS_fr {d : D} {k : D → Env → RS} : Rs.frS (.ok (.fr d) ρ) k = k d ρ := rfl
@[simp] theorem frS_ow {d : D} {k : D → Env → RS} : Rs.frS (.ok (.ow d) ρ) k = k d ρ := rfl
@[simp] theorem lft_some {a : α} : lft (some a) ρ = .ok a ρ := rfl
@[simp] theorem frz_fr {d : D} : frz (.fr d) = some d := rfl
@[simp] theorem frz_ow {d : D} : frz (.ow d) = some d := rfl
end
section
variable {a0 : B} {ρ : Env} {g g' : D → D → Option B} {g1 : D → Option B} {gn : List D → Option B} {f fa fb fc : SE} {fs : SA} {c ct et : STs} {S S' : SS} {fv : SAv} {i n : Nat} {d : D}
@[simp] theorem sVar_eq : sVar i (a0 :: ρ) = (match (a0 :: ρ)[i]? with
  | some (.fr d) => .ok (.fr d) (a0 :: ρ)
  | _ => .bad) := rfl
@[simp] theorem sC_eq : sC d (a0 :: ρ) = .ok (.fr d) (a0 :: ρ) := rfl
@[simp] theorem sMk_eq {b : B} : sMk b (a0 :: ρ) = .ok b (a0 :: ρ) := rfl
@[simp] theorem sBin_eq : sBin g fa fb (a0 :: ρ) = (fa (a0 :: ρ)).frd fun x ρ1 => (fb ρ1).frd fun y ρ2 => lft (g x y) ρ2 := rfl
@[simp] theorem sUn_eq : sUn g1 fa (a0 :: ρ) = (fa (a0 :: ρ)).frd fun x ρ1 => lft (g1 x) ρ1 := rfl
@[simp] theorem sNil_eq : sNil (a0 :: ρ) = .ok [] (a0 :: ρ) := rfl
@[simp] theorem sCons_eq : sCons fa fs (a0 :: ρ) = (fa (a0 :: ρ)).frd fun x ρ1 => (fs ρ1).bnd fun xs ρ2 => .ok (x :: xs) ρ2 := rfl
@[simp] theorem sApp_eq : sApp gn fs (a0 :: ρ) = (fs (a0 :: ρ)).bnd fun xs ρ1 => lft (gn xs) ρ1 := rfl
@[simp] theorem sTru_eq : sTru fa (a0 :: ρ) = (fa (a0 :: ρ)).frd fun x ρ1 => if okTruth x then .ok (truth x) ρ1 else .bad := rfl
@[simp] theorem sTest_eq : sTest fa (a0 :: ρ) = (fa (a0 :: ρ)).frd fun x ρ1 => lft (bOf x) ρ1 := rfl
@[simp] theorem sNotV_eq : sNotV fa (a0 :: ρ) = (fa (a0 :: ρ)).frd fun x ρ1 => if okTruth x then .ok (.fr (.bool (!truth x))) ρ1 else .bad := rfl
@[simp] theorem sNotT_eq : sNotT c (a0 :: ρ) = (c (a0 :: ρ)).bnd fun b ρ1 => .ok (!b) ρ1 := rfl
@[simp] theorem sAndT_eq : sAndT c et (a0 :: ρ) = (c (a0 :: ρ)).bnd fun b ρ1 => if b = true then et ρ1 else .ok false ρ1 := rfl
@[simp] theorem sOrT_eq : sOrT c et (a0 :: ρ) = (c (a0 :: ρ)).bnd fun b ρ1 => if b = true then .ok true ρ1 else et ρ1 := rfl
@[simp] theorem sIf_eq : sIf c fa fb (a0 :: ρ) = (c (a0 :: ρ)).bnd fun b ρ1 => if b = true then fa ρ1 else fb ρ1 := rfl
@[simp] theorem sOrV_eq : sOrV fa fb (a0 :: ρ) = (fa (a0 :: ρ)).frd fun x ρ1 => if okTruth x then (if truth x = true then .ok (.fr x) ρ1 else fb ρ1) else .bad := rfl
@[simp] theorem sAndV_eq : sAndV fa fb (a0 :: ρ) = (fa (a0 :: ρ)).frd fun x ρ1 => if okTruth x then (if truth x = true then fb ρ1 else .ok (.fr x) ρ1) else .bad := rfl
@[simp] theorem sChain_eq : sChain g g' fa fb fc (a0 :: ρ) = (fa (a0 :: ρ)).frd fun x ρ1 => (fb ρ1).frd fun y ρ2 => (lft (g x y) ρ2).frd fun w ρ3 => (lft (bOf w) ρ3).bnd fun k ρ4 =>
  if k = true then (fc ρ4).frd fun z ρ5 => lft (g' y z) ρ5 else .ok (.fr (.bool false)) ρ4 := rfl
@[simp] theorem sSeq_eq : sSeq S S' (a0 :: ρ) = (match S (a0 :: ρ) with
  | .nx ρ' => S' ρ'
  | r => r) := rfl
@[simp] theorem sNext_eq : sNext (a0 :: ρ) = .nx (a0 :: ρ) := rfl
@[simp] theorem sExpr_eq : sExpr f (a0 :: ρ) = (f (a0 :: ρ)).bS fun _ ρ1 => .nx ρ1 := rfl
@[simp] theorem sRet_eq : sRet f (a0 :: ρ) = (f (a0 :: ρ)).bS fun b ρ1 => .rt b ρ1 := rfl
@[simp] theorem sMove_eq : sMove i (a0 :: ρ) = (match (a0 :: ρ)[i]? with
  | some (.fr d) => .ok (.fr d) (a0 :: ρ)
  | some (.ow d) => .ok (.ow d) ((a0 :: ρ).set i .no)
  | _ => .bad) := rfl
@[simp] theorem sIfS_eq : sIfS c S S' (a0 :: ρ) = (c (a0 :: ρ)).bS fun b ρ1 => if b = true then S ρ1 else S' ρ1 := rfl
@[simp] theorem frB_fr {k : Bool} : frB k (.fr d) = some (.fr d) := rfl
@[simp] theorem frB_owT : frB true (.ow d) = some (.ow d) := rfl
@[simp] theorem frB_owF : frB false (.ow d) = some (.fr d) := rfl
@[simp] theorem sSet_eq {k : Bool} : sSet k i f (a0 :: ρ) = (f (a0 :: ρ)).bS fun b ρ1 => match frB k b with
  | some b' => if i < ρ1.length then .nx (ρ1.set i b') else .bad
  | none => .bad := rfl
@[simp] theorem sAsg_eq {h : SG} : sAsg f h (a0 :: ρ) = (f (a0 :: ρ)).bS fun b ρ1 => match frz b with
  | some d => (match h d ρ1 with
    | some ρ2 => .nx ρ2
    | none => .bad)
  | none => .bad := rfl
@[simp] theorem sPar_eq {k1 k2 : Bool} {j : Nat} : sPar k1 k2 i j fa fb (a0 :: ρ) = (fa (a0 :: ρ)).bS fun b1 ρ1 => match frB k1 b1 with
  | none => .bad
  | some c1 => (fb ρ1).bS fun b2 ρ2 => match frB k2 b2 with
    | none => .bad
    | some c2 => if i < ρ2.length ∧ j < ρ2.length then .nx ((ρ2.set i c1).set j c2) else .bad := rfl
@[simp] theorem sFor_eq {it : SI} {h : SG} : sFor it h S (a0 :: ρ) = (it (a0 :: ρ)).bS fun ds ρ1 => forR h S ds ρ1 := rfl
@[simp] theorem sLc_eq {vs : List Nat} {it : SI} {h : SG} : sLc vs it h ct f (a0 :: ρ) = (it (a0 :: ρ)).bnd fun ds ρ1 => lcR vs h ct f ds [] ρ1 := rfl
@[simp] theorem sYes_eq : sYes (a0 :: ρ) = .ok true (a0 :: ρ) := rfl
@[simp] theorem vNil_eq : vNil (a0 :: ρ) = .ok [] (a0 :: ρ) := rfl
@[simp] theorem vVal_eq : vVal f fv (a0 :: ρ) = (f (a0 :: ρ)).frd fun d ρ1 => (fv ρ1).bnd fun l ρ2 => .ok (.val d :: l) ρ2 := rfl
@[simp] theorem vIo_eq : vIo i fv (a0 :: ρ) = (match (a0 :: ρ)[i]? with
  | some (.fr d) => (fv (a0 :: ρ)).bnd fun l ρ2 => .ok (.val d :: l) ρ2
  | some (.ow _) => (fv (a0 :: ρ)).bnd fun l ρ2 => .ok (.io i :: l) ρ2
  | _ => .bad) := rfl
@[simp] theorem sCall_eq : sCall f fv (a0 :: ρ) = (fv (a0 :: ρ)).bnd fun l ρ1 => if nodupB (ios l) = true then (match mkArgs ρ1 l with
    | some bs => (match f bs with
      | .ok b os => .ok b (backs l os ρ1)
      | .exc x os => .exc x (backs l os ρ1)
      | .bad => .bad)
    | none => .bad) else .bad := rfl
@[simp] theorem sSetL_eq {fi : SE} : sSetL i fi f (a0 :: ρ) = (f (a0 :: ρ)).frS fun d ρ1 => if (owL ρ1 i).isSome = true then (fi ρ1).frS fun k ρ2 => match (owL ρ2 i).bind fun ds => setAt ds k d with
  | some ds' => .nx (ρ2.set i (.ow (.list ds')))
  | none => .bad else .bad := rfl
@[simp] theorem ios_nil : ios [] = [] := rfl
@[simp] theorem ios_val {l : List AV} : ios (.val d :: l) = ios l := rfl
@[simp] theorem ios_io {l : List AV} : ios (.io i :: l) = i :: ios l := rfl
@[simp] theorem nodupB_nil : nodupB [] = true := rfl
@[simp] theorem nodupB_one : nodupB [i] = true := rfl
@[simp] theorem mkArgs_nil : mkArgs (a0 :: ρ) [] = some [] := rfl
@[simp] theorem mkArgs_val {l : List AV} : mkArgs (a0 :: ρ) (.val d :: l) = (mkArgs (a0 :: ρ) l).map (.fr d :: ·) := rfl
@[simp] theorem mkArgs_io {l : List AV} : mkArgs (a0 :: ρ) (.io i :: l) = (match (a0 :: ρ)[i]? with
    | some (.ow d) => (mkArgs (a0 :: ρ) l).map (.ow d :: ·)
    | _ => none) := rfl
@[simp] theorem backs_nil {os : List B} : backs [] os (a0 :: ρ) = (a0 :: ρ) := by unfold backs; rfl
@[simp] theorem backs_io {l : List AV} {b : B} {bs : List B} : backs (.io i :: l) (b :: bs) (a0 :: ρ) = backs l bs ((a0 :: ρ).set i b) := rfl
@[simp] theorem backs_val {l : List AV} {b : B} {bs : List B} : backs (.val d :: l) (b :: bs) (a0 :: ρ) = backs l bs (a0 :: ρ) := rfl
@[simp] theorem gNm_eq : gNm i d (a0 :: ρ) = if i < (a0 :: ρ).length then some ((a0 :: ρ).set i (.fr d)) else none := rfl
@[simp] theorem gTp_tup {h : SGs} {ds : List D} : gTp n h (.tuple ds) (a0 :: ρ) = if ds.length = n then h ds (a0 :: ρ) else none := rfl
@[simp] theorem gsNil_eq : gsNil [] (a0 :: ρ) = some (a0 :: ρ) := rfl
@[simp] theorem gsCons_eq {h : SG} {h' : SGs} {ds : List D} : gsCons h h' (d :: ds) (a0 :: ρ) = (h d (a0 :: ρ)).bind fun ρ1 => h' ds ρ1 := rfl
@[simp] theorem iSeq_eq : iSeq f (a0 :: ρ) = (f (a0 :: ρ)).frd fun d ρ1 => lft (itD d) ρ1 := rfl
@[simp] theorem iRng_eq {h : List D → Option (List D)} : iRng h fs (a0 :: ρ) = (fs (a0 :: ρ)).bnd fun ds ρ1 => lft (h ds) ρ1 := rfl
@[simp] theorem pNone_eq : pNone (a0 :: ρ) = .ok none (a0 :: ρ) := rfl
@[simp] theorem pSome_eq : pSome f (a0 :: ρ) = (f (a0 :: ρ)).frd fun d ρ1 => (lft (intOf d) ρ1).bnd fun i ρ2 => .ok (some i) ρ2 := rfl
@[simp] theorem intOf_int {z : Int} : intOf (.int z) = some z := rfl
@[simp] theorem sSl_eq {lo hi : SP} : sSl f lo hi (a0 :: ρ) = (f (a0 :: ρ)).frd fun x ρ1 => (lo ρ1).bnd fun l ρ2 => (hi ρ2).bnd fun u ρ3 => lft (gSl x l u) ρ3 := rfl
@[simp] theorem sStrM_eq : sStrM g fa fb (a0 :: ρ) = (fa (a0 :: ρ)).frd fun x ρ1 => if isStr x = true then (fb ρ1).frd fun y ρ2 => lft (g x y) ρ2 else .bad := rfl
@[simp] theorem isStr_str {z : Str} : isStr (.str z) = true := rfl
@[simp] theorem sAppend_eq : sAppend i f (a0 :: ρ) = if (owL (a0 :: ρ) i).isSome = true then (f (a0 :: ρ)).frS fun d ρ1 => match owL ρ1 i with
  | some ds => if ds.length < sizeLine then .nx (ρ1.set i (.ow (.list (ds ++ [d])))) else .bad
  | none => .bad else .bad := rfl
@[simp] theorem sLend_eq : sLend i f (a0 :: ρ) = (match (a0 :: ρ)[i]? with
  | some (.ow d) => (f ((a0 :: ρ).set i (.fr d))).bnd fun b ρ' => if okBack i d b (a0 :: ρ) ρ' = true then .ok b (ρ'.set i (.ow d)) else .ok b ρ'
  | _ => f (a0 :: ρ)) := rfl
@[simp] theorem sLendT_eq : sLendT i c (a0 :: ρ) = (match (a0 :: ρ)[i]? with
  | some (.ow d) => (c ((a0 :: ρ).set i (.fr d))).bnd fun b ρ' => if okBack i d .no (a0 :: ρ) ρ' = true then .ok b (ρ'.set i (.ow d)) else .ok b ρ'
  | _ => c (a0 :: ρ)) := rfl
@[simp] theorem bOf_bool {b : Bool} : bOf (.bool b) = some b := rfl
@[simp] theorem truth_bool {b : Bool} : truth (.bool b) = b := rfl
@[simp] theorem okTruth_bool {b : Bool} : okTruth (.bool b) = true := rfl
@[simp] theorem forR_nil {h : SG} : forR h S [] (a0 :: ρ) = .nx (a0 :: ρ) := rfl
end
/-- a name lent: the others are such that nothing of it may be kept -/
def chk (i : Nat) : Nat → List B → List B → Prop
  | n, a :: ρ, c :: ρ' => (n = i ∨ pureB c = true ∨ (a = c ∧ isFr c = true)) ∧ chk i (n + 1) ρ ρ'
  | n, [], c :: ρ' => (n = i ∨ pureB c = true) ∧ chk i (n + 1) [] ρ'
  | _, _, [] => True
theorem chk_get {i : Nat} : ∀ {ρ' ρ : List B} {n : Nat}, chk i n ρ ρ' → ∀ j, n + j ≠ i → ∀ c, ρ'[j]? = some c → pureB c = true ∨ (ρ[j]? = some c ∧ isFr c = true)
  | [], _, _, _, j, _, c, e => by simp at e
  | c :: ρ', a :: ρ, n, h, 0, hj, c', e => by
    have e : c = c' := by simpa using e
    subst e
    unfold chk at h
    rcases h.1 with w | w | w
    · exact absurd w hj
    · exact .inl w
    · exact .inr ⟨by rw [w.1]; rfl, w.2⟩
  | c :: ρ', [], n, h, 0, hj, c', e => by
    have e : c = c' := by simpa using e
    subst e
    unfold chk at h
    rcases h.1 with w | w
    · exact absurd w hj
    · exact .inl w
  | c :: ρ', a :: ρ, n, h, j + 1, hj, c', e => by
    unfold chk at h
    simpa using chk_get h.2 j (by omega) c' (by simpa using e)
  | c :: ρ', [], n, h, j + 1, hj, c', e => by
    unfold chk at h
    rcases chk_get h.2 j (by omega) c' (by simpa using e) with w | w
    · exact .inl w
    · simp at w
theorem okBack_of {i : Nat} {d : D} {b : B} {ρ ρ' : Env} (h1 : pureB b = true) (h2 : ρ'[i]? = some (.fr d)) (h3 : chk i 0 ρ ρ') : okBack i d b ρ ρ' = true := by
  unfold okBack
  simp only [Bool.and_eq_true, decide_eq_true_eq]
  exact ⟨⟨h1, h2⟩, fun j hj c e => chk_get h3 j (by omega) c e⟩
@[simp] theorem okBack_iff {i : Nat} {d : D} {b : B} {ρ ρ' : Env} (h : pureB b = true ∧ ρ'[i]? = some (.fr d) ∧ chk i 0 ρ ρ') : okBack i d b ρ ρ' = true := okBack_of h.1 h.2.1 h.2.2
@[simp] theorem chk_cons {i n : Nat} {a c : B} {ρ ρ' : List B} : chk i n (a :: ρ) (c :: ρ') = ((n = i ∨ pureB c = true ∨ (a = c ∧ isFr c = true)) ∧ chk i (n + 1) ρ ρ') := by rw [chk]
@[simp] theorem chk_nil {i n : Nat} {ρ : List B} : chk i n ρ [] = True := by cases ρ <;> rw [chk]
@[simp] theorem isFr_fr {d : D} : isFr (.fr d) = true := rfl
@[simp] theorem pureB_no : pureB .no = true := rfl
@[simp] theorem pureB_int {z : Int} : pureB (.fr (.int z)) = true := rfl
@[simp] theorem pureB_str {z : Str} : pureB (.fr (.str z)) = true := rfl
@[simp] theorem pureB_bool {z : Bool} : pureB (.fr (.bool z)) = true := rfl
@[simp] theorem pureB_none : pureB (.fr .none) = true := rfl
theorem pureL_all {ds : List D} (h : ∀ d ∈ ds, pureD d = true) : pureL ds = true := by
  induction ds with
  | nil => rfl
  | cons d ds ih => rw [pureL, h d (by simp), ih fun e he => h e (by simp [he])]; rfl
section
variable {i j : Int} {a b : Bool} {x y : Str}
@[simp] theorem okEq_int : okEq (.int i) = true := rfl
@[simp] theorem okEq_bool : okEq (.bool a) = true := rfl
theorem okEq_str (h : PyData.strOk x = true) : okEq (.str x) = true := by
  unfold okEq SeqAt.shaped PyData.canLay0
  rw [h]; rfl
@[simp] theorem okEq_none : okEq .none = true := rfl
@[simp] theorem gAdd_int : gAdd (.int i) (.int j) = some (.fr (.int (i + j))) := rfl
@[simp] theorem gSub_int : gSub (.int i) (.int j) = some (.fr (.int (i - j))) := rfl
@[simp] theorem gAdd_bool : gAdd (.bool a) (.int j) = some (.fr (.int ((if a = true then 1 else 0) + j))) := rfl
@[simp] theorem gSub_bool : gSub (.bool a) (.int j) = some (.fr (.int ((if a = true then 1 else 0) - j))) := rfl
@[simp] theorem gSub_ib : gSub (.int i) (.bool a) = some (.fr (.int (i - if a = true then 1 else 0))) := rfl
@[simp] theorem gNeg_int : gNeg (.int i) = some (.fr (.int (-i))) := rfl
@[simp] theorem gLt_int : gLt (.int i) (.int j) = some (.fr (.bool (decide (i < j)))) := by unfold gLt; rw [PySem.W.dataLt_int]; rfl
@[simp] theorem gGt_int : gGt (.int i) (.int j) = some (.fr (.bool (decide (j < i)))) := by unfold gGt; rw [PySem.W.dataLt_int]; rfl
@[simp] theorem gLe_int : gLe (.int i) (.int j) = some (.fr (.bool (decide (i ≤ j)))) := by
  unfold gLe; rw [PySem.W.dataLt_int]
  show some (B.fr (PyData.bool (!decide (j < i)))) = _
  rw [show (!decide (j < i)) = decide (i ≤ j) by simp [← decide_not, Int.not_lt]]
@[simp] theorem gGe_int : gGe (.int i) (.int j) = some (.fr (.bool (decide (j ≤ i)))) := by
  unfold gGe; rw [PySem.W.dataLt_int]
  show some (B.fr (PyData.bool (!decide (i < j)))) = _
  rw [show (!decide (i < j)) = decide (j ≤ i) by simp [← decide_not, Int.not_lt]]
@[simp] theorem gEq_int : gEq (.int i) (.int j) = some (.fr (.bool (decide (i = j)))) := by
  show some (B.fr (PyData.bool (i == j))) = _
  simp [BEq.beq]
@[simp] theorem gNe_int : gNe (.int i) (.int j) = some (.fr (.bool (!decide (i = j)))) := by
  show some (B.fr (PyData.bool (!(i == j)))) = _
  simp [BEq.beq]
@[simp] theorem gEq_bool : gEq (.bool a) (.bool b) = some (.fr (.bool (a == b))) := rfl
@[simp] theorem gNe_bool : gNe (.bool a) (.bool b) = some (.fr (.bool (!(a == b)))) := rfl
theorem gLt_str (h1 : PyData.strOk x = true) (h2 : PyData.strOk y = true) : gLt (.str x) (.str y) = some (.fr (.bool (decide (x.cps.toList < y.cps.toList)))) := by
  unfold gLt
  rw [PySem.W.dataLt_str, if_pos ⟨by unfold okLt; rw [okEq_str h1]; rfl, okEq_str h2⟩]
theorem gLe_str (h1 : PyData.strOk x = true) (h2 : PyData.strOk y = true) : gLe (.str x) (.str y) = some (.fr (.bool (!decide (y.cps.toList < x.cps.toList)))) := by
  unfold gLe
  rw [PySem.W.dataLt_str, if_pos ⟨by unfold okLt; rw [okEq_str h1]; rfl, okEq_str h2⟩]
@[simp] theorem gIs_bool : gIs (.bool a) (.bool b) = some (.fr (.bool (decide (a = b)))) := rfl
theorem gMod_int (h : 0 < j) : gMod (.int i) (.int j) = some (.fr (.int (i % j))) := if_pos h
theorem gFdiv_int (h : 0 < j) (h2 : j.natAbs.log2 < 9000) : gFdiv (.int i) (.int j) = some (.fr (.int (i / j))) := if_pos ⟨h, h2⟩
theorem gMul_int (h : i.natAbs.log2 + j.natAbs.log2 < 1000000) : gMul (.int i) (.int j) = some (.fr (.int (i * j))) := if_pos h
end
@[simp] theorem owL_zero {ds : List D} {ρ : Env} : owL (.ow (.list ds) :: ρ) 0 = some ds := rfl
@[simp] theorem owL_succ {a0 : B} {ρ : Env} {i : Nat} : owL (a0 :: ρ) (i + 1) = owL ρ i := rfl
@[simp] theorem runDef_eq {body : SS} {np ns : Nat} {prot : List Nat} {bs : List B} : runDef body np ns prot bs = if bs.length = np then fin prot bs (body (bs ++ List.replicate (ns - np) .no)) else .bad := rfl
@[simp] theorem outs_nil {prot : List Nat} {i : Nat} {rs : List B} : outs prot i [] rs = some [] := by cases rs <;> rfl
@[simp] theorem outs_fr {prot : List Nat} {i : Nat} {d : D} {bs rs : List B} {r : B} : outs prot i (.fr d :: bs) (r :: rs) = if i ∈ prot then (outs prot (i + 1) bs rs).map (r :: ·) else (outs prot (i + 1) bs rs).map (.fr d :: ·) := rfl
@[simp] theorem outs_ow {prot : List Nat} {i : Nat} {d : D} {bs rs : List B} {r : B} : outs prot i (.ow d :: bs) (r :: rs) = if i ∈ prot then (outs prot (i + 1) bs rs).map (r :: ·) else none := rfl
@[simp] theorem fin_rt {prot : List Nat} {bs ρ : List B} {b : B} : fin prot bs (.rt b ρ) = (match outs prot 0 bs ρ with
  | some os => .ok b os
  | none => .bad) := rfl
@[simp] theorem fin_nx {prot : List Nat} {bs ρ : List B} : fin prot bs (.nx ρ) = (match outs prot 0 bs ρ with
  | some os => .ok (.fr .none) os
  | none => .bad) := rfl
/-! ### subscripts -/
theorem ixN_nat {n j : Nat} (h : j < n) : ixN n (j : Int) = some j := by
  unfold ixN
  rw [if_pos (Int.natCast_nonneg j), if_pos (Int.ofNat_lt.mpr h), Int.toNat_natCast]
theorem atI_nat {α : Type} {xs : List α} {j : Nat} {x : α} (h : xs[j]? = some x) : atI xs (j : Int) = some x := by
  unfold atI
  rw [ixN_nat (List.getElem?_eq_some_iff.mp h).1]
  exact h
theorem gIx_nat {ds : List D} {d : D} {j : Nat} (h : ds[j]? = some d) : gIx (.list ds) (.int (j : Int)) = some (.fr d) := by
  show (atI ds (j : Int)).map B.fr = _
  rw [atI_nat h]; rfl
theorem gIxT_nat {ds : List D} {d : D} {j : Nat} (h : ds[j]? = some d) : gIx (.tuple ds) (.int (j : Int)) = some (.fr d) := by
  show (atI ds (j : Int)).map B.fr = _
  rw [atI_nat h]; rfl
theorem setAt_nat {ds : List D} {x : D} {j : Nat} (h : j < ds.length) : setAt ds (.int (j : Int)) x = some (ds.set j x) := by
  show (ixN ds.length (j : Int)).map (fun j => ds.set j x) = _
  rw [ixN_nat h]; rfl
@[simp] theorem gIx_at0 {ds : List D} {d : D} : gIx (.list (d :: ds)) (.int 0) = some (.fr d) := gIx_nat (j := 0) rfl
@[simp] theorem gIx_at1 {ds : List D} {d e : D} : gIx (.list (d :: e :: ds)) (.int 1) = some (.fr e) := gIx_nat (j := 1) rfl
@[simp] theorem gIx_at2 {ds : List D} {d e f : D} : gIx (.list (d :: e :: f :: ds)) (.int 2) = some (.fr f) := gIx_nat (j := 2) rfl
@[simp] theorem gIx_at3 {ds : List D} {d e f x : D} : gIx (.list (d :: e :: f :: x :: ds)) (.int 3) = some (.fr x) := gIx_nat (j := 3) rfl
@[simp] theorem gIxT_at0 {ds : List D} {d : D} : gIx (.tuple (d :: ds)) (.int 0) = some (.fr d) := gIxT_nat (j := 0) rfl
@[simp] theorem gIxT_at1 {ds : List D} {d e : D} : gIx (.tuple (d :: e :: ds)) (.int 1) = some (.fr e) := gIxT_nat (j := 1) rfl
@[simp] theorem gIxT_at2 {ds : List D} {d e f : D} : gIx (.tuple (d :: e :: f :: ds)) (.int 2) = some (.fr f) := gIxT_nat (j := 2) rfl
@[simp] theorem gIxT_at3 {ds : List D} {d e f x : D} : gIx (.tuple (d :: e :: f :: x :: ds)) (.int 3) = some (.fr x) := gIxT_nat (j := 3) rfl
@[simp] theorem setAt_0 {ds : List D} {d x : D} : setAt (d :: ds) (.int 0) x = some (x :: ds) := setAt_nat (j := 0) (Nat.zero_lt_succ _)
@[simp] theorem setAt_2 {ds : List D} {d e f x : D} : setAt (d :: e :: f :: ds) (.int 2) x = some (d :: e :: x :: ds) := setAt_nat (j := 2) (by simp only [List.length_cons]; omega)
theorem atI_lt {α : Type} {xs : List α} {r : Int} (h0 : 0 ≤ r) (h1 : r < xs.length) : ∃ x, x ∈ xs ∧ atI xs r = some x := by
  have h2 : r.toNat < xs.length := by omega
  refine ⟨xs[r.toNat], List.getElem_mem h2, ?_⟩
  unfold atI ixN
  rw [if_pos h0, if_pos h1]
  exact List.getElem?_eq_getElem h2
@[simp] theorem wipeB_nil {ρ : Env} : wipeB [] ρ = ρ := rfl
@[simp] theorem wipeB_cons {v : Nat} {r : List Nat} {ρ : Env} : wipeB (v :: r) ρ = (wipeB r ρ).set v .no := rfl
@[simp] theorem keepE_nil {ρ ρ' : Env} : keepE [] ρ ρ' = ρ' := rfl
@[simp] theorem keepE_cons {v : Nat} {r : List Nat} {ρ ρ' : Env} : keepE (v :: r) ρ ρ' = (match ρ[v]? with
    | some b => (keepE r ρ ρ').set v b
    | none => keepE r ρ ρ') := rfl
@[simp] theorem pureB_owL {ds : List D} : pureB (.ow (.list ds)) = pureL ds := rfl
@[simp] theorem pureB_fr {d : D} : pureB (.fr d) = pureD d := rfl
@[simp] theorem pureD_int {z : Int} : pureD (.int z) = true := rfl
@[simp] theorem pureD_str {z : Str} : pureD (.str z) = true := rfl
@[simp] theorem pureD_bool {z : Bool} : pureD (.bool z) = true := rfl
@[simp] theorem pureL_nil : pureL [] = true := rfl
@[simp] theorem pureL_cons {d : D} {ds : List D} : pureL (d :: ds) = (pureD d && pureL ds) := by rw [pureL]
@[simp] theorem gSorted_strs {zs : List Str} (h : ∀ z ∈ zs, PyData.strOk z = true) (hl : zs.length ≤ sizeLine) : gSorted [.list (zs.map .str)] = some (.ow (.list ((zs.map PyData.str).mergeSort (PySem.W.dataLe false id)))) := by
  have e : zs.map PyData.str = zs.map fun z => PyData.str z := rfl
  unfold gSorted
  refine if_pos ⟨PySem.W.AllAlike.of fun _ _ => rfl, PySem.W.Sortable.others fun _ => ⟨(fun w => nomatch w), fun _ w => nomatch w⟩, fun d hd => ?_, by rw [List.length_map]; exact hl⟩
  obtain ⟨z, hz, rfl⟩ := List.mem_map.mp hd
  exact okEq_str (h z hz)
theorem pigeon {α : Type} [DecidableEq α] : ∀ (f l : List α), l.Nodup → f.length < l.length → ∃ x, x ∈ l ∧ x ∉ f
  | [], x :: l, _, _ => ⟨x, List.mem_cons_self, by simp⟩
  | [], [], _, h => by simp at h
  | y :: f, l, hn, h => by
    obtain ⟨x, h1, h2⟩ := pigeon f (l.erase y) (hn.erase y) (by
      have := List.length_erase (a := y) (l := l)
      simp only [List.length_cons] at h
      split at this <;> omega)
    have h3 := (hn.mem_erase_iff).mp h1
    exact ⟨x, h3.2, by simp [h3.1, h2]⟩
/-! ### loops -/
theorem forR_inv {g : SG} {b : SS} (I : Nat → Env → Prop) {ds : List D} {ρ : Env} (h0 : I 0 ρ)
    (step : ∀ i d ρ, ds[i]? = some d → I i ρ → ∃ ρ1, g d ρ = some ρ1 ∧ ∃ ρ2, (b ρ1 = .nx ρ2 ∨ b ρ1 = .ct ρ2) ∧ I (i + 1) ρ2) : ∃ ρ', forR g b ds ρ = .nx ρ' ∧ I ds.length ρ' := by
  induction ds generalizing I ρ with
  | nil => exact ⟨ρ, rfl, h0⟩
  | cons d ds ih =>
    obtain ⟨ρ1, h1, ρ2, h2, h3⟩ := step 0 d ρ rfl h0
    obtain ⟨ρ', h4, h5⟩ := ih (fun n => I (n + 1)) h3 fun i e ρ he hi => step (i + 1) e ρ (by simpa using he) hi
    refine ⟨ρ', ?_, h5⟩
    unfold forR
    rw [h1]
    rcases h2 with h2 | h2 <;> simp only [h2] <;> exact h4
/-- .. or the body gives something back on the way -/
theorem forR_out {g : SG} {b : SS} (I : Nat → Env → Prop) (R : B → Env → Prop) {ds : List D} {ρ : Env} (h0 : I 0 ρ)
    (step : ∀ i d ρ, ds[i]? = some d → I i ρ → ∃ ρ1, g d ρ = some ρ1 ∧ ((∃ ρ2, (b ρ1 = .nx ρ2 ∨ b ρ1 = .ct ρ2) ∧ I (i + 1) ρ2) ∨ ∃ v ρ2, b ρ1 = .rt v ρ2 ∧ R v ρ2)) :
    (∃ ρ', forR g b ds ρ = .nx ρ' ∧ I ds.length ρ') ∨ ∃ v ρ', forR g b ds ρ = .rt v ρ' ∧ R v ρ' := by
  induction ds generalizing I ρ with
  | nil => exact .inl ⟨ρ, rfl, h0⟩
  | cons d ds ih =>
    obtain ⟨ρ1, h1, h | h⟩ := step 0 d ρ rfl h0
    · obtain ⟨ρ2, h2, h3⟩ := h
      have e : forR g b (d :: ds) ρ = forR g b ds ρ2 := by
        rw [forR, h1]
        rcases h2 with h2 | h2 <;> simp only [h2]
      rw [e]
      exact ih (fun n => I (n + 1)) h3 fun i e ρ he hi => step (i + 1) e ρ (by simpa using he) hi
    · obtain ⟨v, ρ2, h2, h3⟩ := h
      exact .inr ⟨v, ρ2, by rw [forR, h1]; simp only [h2], h3⟩
theorem lcR_inv {vs : List Nat} {g : SG} {ct : STs} {fe : SE} (I : Nat → List D → Env → Prop) {ds acc : List D} {ρ : Env} (h0 : I 0 acc ρ) (hl : acc.length + ds.length ≤ sizeLine) (hI : ∀ i a ρ, I i a ρ → a.length ≤ acc.length + i)
    (step : ∀ i d a ρ, ds[i]? = some d → I i a ρ → ∃ ρ2, g d (wipeB vs ρ) = some ρ2 ∧ ((∃ ρ3, ct ρ2 = .ok false ρ3 ∧ I (i + 1) a (keepE vs ρ ρ3)) ∨ ∃ ρ3, ct ρ2 = .ok true ρ3 ∧ ∃ b y ρ4, fe ρ3 = .ok b ρ4 ∧ frz b = some y ∧ I (i + 1) (a ++ [y]) (keepE vs ρ ρ4))) :
    ∃ a' ρ', lcR vs g ct fe ds acc ρ = .ok (.ow (.list a')) ρ' ∧ I ds.length a' ρ' := by
  suffices H : ∀ (ds : List D) (n : Nat) (a : List D) (ρ : Env), n + ds.length + acc.length ≤ sizeLine → I n a ρ → (∀ i d a ρ, ds[i]? = some d → I (n + i) a ρ → ∃ ρ2, g d (wipeB vs ρ) = some ρ2 ∧ ((∃ ρ3, ct ρ2 = .ok false ρ3 ∧ I (n + i + 1) a (keepE vs ρ ρ3)) ∨ ∃ ρ3, ct ρ2 = .ok true ρ3 ∧ ∃ b y ρ4, fe ρ3 = .ok b ρ4 ∧ frz b = some y ∧ I (n + i + 1) (a ++ [y]) (keepE vs ρ ρ4))) →
      ∃ a' ρ', lcR vs g ct fe ds a ρ = .ok (.ow (.list a')) ρ' ∧ I (n + ds.length) a' ρ' by
    obtain ⟨a', ρ', h1, h2⟩ := H ds 0 acc ρ (by omega) h0 fun i d a ρ he hi => by
      have := step i d a ρ he (by simpa using hi)
      simpa using this
    exact ⟨a', ρ', h1, by simpa using h2⟩
  intro ds
  induction ds with
  | nil => exact fun n a ρ _ hi _ => ⟨a, ρ, rfl, hi⟩
  | cons d ds ih =>
    intro n a ρ hn hi st
    obtain ⟨ρ2, h1, h⟩ := st 0 d a ρ rfl hi
    have la := hI n a ρ hi
    simp only [List.length_cons] at hn
    rcases h with ⟨ρ3, h2, h3⟩ | ⟨ρ3, h2, b, y, ρ4, h3, h4, h5⟩
    · obtain ⟨a', ρ', k1, k2⟩ := ih (n + 1) a _ (by omega) h3 fun i e a ρ he hi => by
        have := st (i + 1) e a ρ (by simpa using he) (by rw [show n + (i + 1) = n + 1 + i by omega]; exact hi)
        rw [show n + (i + 1) = n + 1 + i by omega] at this
        exact this
      refine ⟨a', ρ', ?_, by rw [List.length_cons, show n + (ds.length + 1) = n + 1 + ds.length by omega]; exact k2⟩
      rw [lcR, h1]
      simp only [h2]
      exact k1
    · obtain ⟨a', ρ', k1, k2⟩ := ih (n + 1) _ _ (by omega) h5 fun i e a ρ he hi => by
        have := st (i + 1) e a ρ (by simpa using he) (by rw [show n + (i + 1) = n + 1 + i by omega]; exact hi)
        rw [show n + (i + 1) = n + 1 + i by omega] at this
        exact this
      refine ⟨a', ρ', ?_, by rw [List.length_cons, show n + (ds.length + 1) = n + 1 + ds.length by omega]; exact k2⟩
      rw [lcR, h1]
      simp only [h2, h3, h4]
      rw [if_pos (by omega)]
      exact k1
/-- a comprehension that changes nothing -/
theorem lcR_pure {vs : List Nat} {g : SG} {ct : STs} {fe : SE} (q : D → Env) (p : D → Bool) (v : D → D) : ∀ {ds acc : List D} {ρ : Env}, (∀ d ∈ ds, g d (wipeB vs ρ) = some (q d) ∧ ct (q d) = .ok (p d) (q d) ∧ (p d = true → ∃ b, fe (q d) = .ok b (q d) ∧ frz b = some (v d)) ∧ keepE vs ρ (q d) = ρ) →
    acc.length + ds.length ≤ sizeLine → lcR vs g ct fe ds acc ρ = .ok (.ow (.list (acc ++ (ds.filter p).map v))) ρ
  | [], acc, ρ, _, _ => by rw [lcR]; simp
  | d :: ds, acc, ρ, h, hl => by
    obtain ⟨h1, h2, h3, h4⟩ := h d (by simp)
    simp only [List.length_cons] at hl
    rw [lcR, h1]
    cases hp : p d with
    | false =>
      rw [hp] at h2
      simp only [h2]
      rw [h4, lcR_pure q p v (fun e he => h e (by simp [he])) (by omega), List.filter_cons, hp]
      rfl
    | true =>
      rw [hp] at h2
      obtain ⟨b, k1, k2⟩ := h3 hp
      simp only [h2, k1, k2]
      rw [if_pos (by omega), h4, lcR_pure q p v (fun e he => h e (by simp [he])) (by simp only [List.length_append, List.length_cons, List.length_nil]; omega), List.filter_cons, hp]
      simp
end FK
set_option Elab.async false
set_option linter.all false
set_option maxRecDepth 100000
set_option maxHeartbeats 0
namespace Lw
open PySem PySem.Spec PyProof.Rows L2 FK
abbrev PR : Program := PySem.Challenge.pw_fewkept_k01_places_and_links_known
def top (i : Nat) : Stmt := PR.main.body.getD i (.Pass ⟨0, 0, 0, 0⟩)
noncomputable def b0 (tb : Nat → SE) : SS := /- is_number -/
(sSeq (sRet (sAndV (sUn (gIsi "int") (sVar 0)) (sAndV (sNotV (sUn (gIsi "bool") (sVar 0))) (sChain gLe gLe (sC (.int 0)) (sVar 0) (sVar 1)))))
 sNext)
noncomputable def b1e0 (tb : Nat → SE) : SE :=
(sChain gLe gLe (sC (.str "a")) (sVar 1) (sC (.str "z")))
noncomputable def b1 (tb : Nat → SE) : SS := /- is_place -/
(sSeq (sIfS (sOrT (sNotT (sTru (sUn (gIsi "str") (sVar 0)))) (sNotT (sTest (sChain gLt gLe (sC (.int 0)) (sApp gLen (sCons (sVar 0) sNil)) (sC (.int 6)))))) (sSeq (sRet (sC (.bool false)))
 sNext) sNext)
 (sSeq (sRet (sApp gAll (sCons (sLc [1] (iSeq (sVar 0)) (gNm 1) sYes (b1e0 tb)) sNil)))
 sNext))
noncomputable def b2 (tb : Nat → SE) : SS := /- is_link -/
(sSeq (sIfS (sOrT (sNotT (sTru (sUn (gIsi "tuple") (sVar 0)))) (sTest (sBin gNe (sApp gLen (sCons (sVar 0) sNil)) (sC (.int 4))))) (sSeq (sRet (sC (.bool false)))
 sNext) sNext)
 (sSeq (sAsg (sVar 0) (gTp 4 (gsCons (gNm 1) (gsCons (gNm 2) (gsCons (gNm 3) (gsCons (gNm 4) gsNil))))))
 (sSeq (sIfS (sOrT (sNotT (sTru (sCall (tb 0) (vVal (sVar 1) (vVal (sC (.int 1000000)) vNil))))) (sNotT (sTru (sCall (tb 0) (vVal (sVar 2) (vVal (sC (.int 1000000)) vNil)))))) (sSeq (sRet (sC (.bool false)))
 sNext) sNext)
 (sSeq (sRet (sAndV (sCall (tb 1) (vVal (sVar 3) vNil)) (sAndV (sCall (tb 1) (vVal (sVar 4) vNil)) (sBin gLt (sVar 3) (sVar 4)))))
 sNext))))
noncomputable def b3 (tb : Nat → SE) : SS := /- _law_begun -/
(sSeq (sRet (sApp gList (sCons (sApp gMax (sCons (sC (.int 0)) (sCons (sBin gSub (sVar 0) (sBin gPow (sC (.int 10)) (sC (.int 18)))) sNil))) (sCons (sBin gAdd (sVar 0) (sBin gMul (sC (.int 977)) (sVar 1))) (sCons (sC (.int 0)) sNil)))))
 sNext)
noncomputable def b4 (tb : Nat → SE) : SS := /- _law_next -/
(sSeq (sIfS (sTest (sBin gGt (sLend 0 (sBin gIx (sVar 0) (sC (.int 0)))) (sC (.int 0)))) (sSeq (sSet false 2 (sBin gMod (sLend 0 (sBin gIx (sVar 0) (sC (.int 0)))) (sVar 1)))
 (sSeq (sSetL 0 (sC (.int 0)) (sBin gFdiv (sLend 0 (sBin gIx (sVar 0) (sC (.int 0)))) (sVar 1)))
 (sSeq (sRet (sVar 2))
 sNext))) sNext)
 (sSeq (sSetL 0 (sC (.int 2)) (sBin gAdd (sLend 0 (sBin gIx (sVar 0) (sC (.int 2)))) (sC (.int 1))))
 (sSeq (sSet false 2 (sBin gAdd (sBin gMod (sLend 0 (sBin gIx (sVar 0) (sC (.int 1)))) (sC (.int 2147483629))) (sBin gMul (sC (.int 104729)) (sLend 0 (sBin gIx (sVar 0) (sC (.int 2)))))))
 (sSeq (sSet false 2 (sBin gMul (sVar 2) (sBin gAdd (sBin gAdd (sBin gMod (sLend 0 (sBin gIx (sVar 0) (sC (.int 1)))) (sC (.int 2147483587))) (sBin gMul (sBin gMul (sC (.int 7919)) (sLend 0 (sBin gIx (sVar 0) (sC (.int 2))))) (sLend 0 (sBin gIx (sVar 0) (sC (.int 2)))))) (sC (.int 11)))))
 (sSeq (sRet (sBin gMod (sBin gFdiv (sBin gMod (sBin gPow (sVar 2) (sC (.int 3))) (sC (.int 2147483647))) (sC (.int 11))) (sVar 1)))
 sNext)))))
noncomputable def b5 (tb : Nat → SE) : SS := /- _law_pick -/
(sSeq (sRet (sBin gIx (sVar 1) (sCall (tb 4) (vIo 0 (vVal (sApp gLen (sCons (sVar 1) sNil)) vNil)))))
 sNext)
noncomputable def b6e0 (tb : Nat → SE) : SE :=
(sBin gAdd (sSl (sVar 5) pNone (pSome (sC (.int 5)))) (sVar 6))
noncomputable def b6c0 (tb : Nat → SE) : STs :=
(sLendT 3 (sTest (sBin gNotIn (sBin gAdd (sSl (sVar 5) pNone (pSome (sC (.int 5)))) (sVar 6)) (sVar 3))))
noncomputable def b6e1 (tb : Nat → SE) : SE :=
(sCall (tb 5) (vIo 0 (vVal (sC (.str "etaoinshrdlcumwfgypbvkjxqz")) vNil)))
noncomputable def b6f0 (tb : Nat → SE) : SS :=
(sSeq (sSet false 5 (sCall (tb 5) (vIo 0 (vVal (sVar 2) vNil))))
 (sSeq (sIfS (sTest (sBin gGt (sCall (tb 4) (vIo 0 (vVal (sC (.int 3)) vNil))) (sC (.int 0)))) (sSeq (sSet false 5 (sStrM gJoin (sC (.str "")) (sLc [6] (iRng gRng1 (sCons (sBin gAdd (sC (.int 1)) (sCall (tb 4) (vIo 0 (vVal (sC (.int 6)) vNil)))) sNil)) (gNm 6) sYes (b6e1 tb))))
 sNext) sNext)
 (sSeq (sIfS (sLendT 3 (sTest (sBin gIn (sVar 5) (sVar 3)))) (sSeq (sSet false 5 (sBin gIx (sLc [6] (iSeq (sC (.str "abcdefghijklmnopqrstuvwxyz"))) (gNm 6) (b6c0 tb) (b6e0 tb)) (sC (.int 0))))
 sNext) sNext)
 (sSeq (sAppend 3 (sVar 5))
 sNext))))
noncomputable def b6 (tb : Nat → SE) : SS := /- _law_spots -/
(sSeq (sPar false true 2 3 (sApp gList (sCons (sC (.str "link")) (sCons (sC (.str "strike")) (sCons (sC (.str "net")) (sCons (sC (.str "sure")) (sCons (sC (.str "why")) (sCons (sC (.str "wide")) (sCons (sC (.str "keeps")) (sCons (sC (.str "struck")) (sCons (sC (.str "left")) (sCons (sC (.str "known")) (sCons (sC (.str "new")) (sCons (sC (.str "in")) sNil))))))))))))) (sApp gList sNil))
 (sSeq (sFor (iRng gRng1 (sCons (sVar 1) sNil)) (gNm 4) (b6f0 tb))
 (sSeq (sRet (sLend 3 (sApp gSorted (sCons (sVar 3) sNil))))
 sNext)))
noncomputable def b7e0 (tb : Nat → SE) : SE :=
(sVar 9)
noncomputable def b7c0 (tb : Nat → SE) : STs :=
(sOrT (sTest (sBin gIn (sBin gIx (sVar 9) (sC (.int 0))) (sVar 6))) (sTest (sBin gIn (sBin gIx (sVar 9) (sC (.int 1))) (sVar 6))))
noncomputable def b7e1 (tb : Nat → SE) : SE :=
(sCall (tb 5) (vIo 0 (vVal (sVar 2) vNil)))
noncomputable def b7e2 (tb : Nat → SE) : SE :=
(sApp gTuple (sCons (sVar 5) (sCons (sVar 7) sNil)))
noncomputable def b7f0 (tb : Nat → SE) : SS :=
(sSeq (sSet false 2 (sBin gAdd (sVar 2) (sLc [7] (iSeq (sSl (sVar 1) (pSome (sBin gAdd (sVar 4) (sC (.int 1)))) pNone)) (gNm 7) sYes (b7e2 tb))))
 sNext)
noncomputable def b7 (tb : Nat → SE) : SS := /- _law_pairs -/
(sSeq (sPar false false 2 3 (sApp gList sNil) (sCall (tb 4) (vIo 0 (vVal (sC (.int 4)) vNil))))
 (sSeq (sFor (iRng gEnum (sCons (sVar 1) sNil)) (gTp 2 (gsCons (gNm 4) (gsCons (gNm 5) gsNil))) (b7f0 tb))
 (sSeq (sIfS (sOrT (sTest (sBin gEq (sVar 3) (sC (.int 0)))) (sTest (sBin gEq (sApp gLen (sCons (sVar 1) sNil)) (sC (.int 2))))) (sSeq (sRet (sVar 2))
 sNext) sNext)
 (sSeq (sIfS (sTest (sBin gEq (sVar 3) (sC (.int 1)))) (sSeq (sRet (sLc [8] (iRng gRng1 (sCons (sC (.int 3)) sNil)) (gNm 8) sYes (b7e1 tb)))
 sNext) sNext)
 (sSeq (sIfS (sTest (sBin gEq (sVar 3) (sC (.int 2)))) (sSeq (sSet false 6 (sApp gList (sCons (sCall (tb 5) (vIo 0 (vVal (sVar 1) vNil))) (sCons (sCall (tb 5) (vIo 0 (vVal (sVar 1) vNil))) sNil))))
 (sSeq (sRet (sLc [9] (iSeq (sVar 2)) (gNm 9) (b7c0 tb) (b7e0 tb)))
 sNext)) sNext)
 (sSeq (sRet (sApp gLz (sCons (sVar 1) (sCons (sSl (sVar 1) (pSome (sC (.int 1))) pNone) sNil))))
 sNext))))))
noncomputable def b8 (tb : Nat → SE) : SS := /- _law_link -/
(sSeq (sAsg (sCall (tb 5) (vIo 0 (vVal (sVar 1) vNil))) (gTp 2 (gsCons (gNm 2) (gsCons (gNm 3) gsNil))))
 (sSeq (sSet false 4 (sCall (tb 5) (vIo 0 (vVal (sApp gList (sCons (sC (.int 0)) (sCons (sC (.int 1)) (sCons (sC (.int 2)) (sCons (sC (.int 3)) (sCons (sBin gPow (sC (.int 10)) (sC (.int 6))) (sCons (sCall (tb 4) (vIo 0 (vVal (sBin gAdd (sBin gPow (sC (.int 10)) (sC (.int 6))) (sC (.int 1))) vNil))) sNil))))))) vNil))))
 (sSeq (sRet (sApp gTuple (sCons (sVar 4) (sCons (sCall (tb 5) (vIo 0 (vVal (sApp gList (sCons (sC (.int 0)) (sCons (sC (.int 1)) (sCons (sC (.int 2)) (sCons (sCall (tb 4) (vIo 0 (vVal (sBin gAdd (sBin gPow (sC (.int 10)) (sC (.int 6))) (sC (.int 1))) vNil))) sNil))))) vNil))) (sCons (sVar 2) (sCons (sVar 3) sNil))))))
 sNext)))
noncomputable def b9 (tb : Nat → SE) : SS := /- _law_bent -/
(sSeq (sIfS (sAndT (sTru (sUn (gIsi "tuple") (sVar 1))) (sAndT (sTest (sBin gNe (sVar 1) (sApp gTuple sNil))) (sTest (sBin gGt (sCall (tb 4) (vIo 0 (vVal (sC (.int 4)) vNil))) (sC (.int 0)))))) (sSeq (sSet false 2 (sCall (tb 4) (vIo 0 (vVal (sApp gLen (sCons (sVar 1) sNil)) vNil))))
 (sSeq (sRet (sBin gAdd (sBin gAdd (sSl (sVar 1) pNone (pSome (sVar 2))) (sApp gTuple (sCons (sCall (tb 9) (vIo 0 (vVal (sBin gIx (sVar 1) (sVar 2)) vNil))) sNil))) (sSl (sVar 1) (pSome (sBin gAdd (sVar 2) (sC (.int 1)))) pNone)))
 sNext)) sNext)
 (sSeq (sIfS (sTru (sUn (gIsi "tuple") (sVar 1))) (sSeq (sSet false 2 (sCall (tb 4) (vIo 0 (vVal (sBin gAdd (sApp gLen (sCons (sVar 1) sNil)) (sC (.int 1))) vNil))))
 (sSeq (sSet false 3 (sApp gList (sCons (sBin gAdd (sSl (sVar 1) pNone (pSome (sVar 2))) (sSl (sVar 1) (pSome (sBin gAdd (sVar 2) (sC (.int 1)))) pNone)) (sCons (sBin gAdd (sBin gAdd (sSl (sVar 1) pNone (pSome (sVar 2))) (sSl (sVar 1) (pSome (sVar 2)) (pSome (sBin gAdd (sVar 2) (sC (.int 1)))))) (sSl (sVar 1) (pSome (sVar 2)) pNone)) (sCons (sUn gRev (sVar 1)) (sCons (sApp gListOf (sCons (sVar 1) sNil)) sNil))))))
 (sSeq (sRet (sCall (tb 5) (vIo 0 (vVal (sBin gAdd (sVar 3) (sApp gList (sCons (sApp gTuple (sCons (sVar 1) sNil)) (sCons (sBin gAdd (sVar 1) (sApp gTuple (sCons (sC (.int 0)) sNil))) (sCons (sC .none) (sCons (sApp gTuple sNil) sNil)))))) vNil))))
 sNext))) sNext)
 (sSeq (sIfS (sTru (sUn (gIsi "str") (sVar 1))) (sSeq (sPar false false 2 4 (sCall (tb 4) (vIo 0 (vVal (sBin gAdd (sApp gLen (sCons (sVar 1) sNil)) (sC (.int 1))) vNil))) (sCall (tb 5) (vIo 0 (vVal (sC (.str "abcxyzAZ09 _-{`~\x40[.\n")) vNil))))
 (sSeq (sSet false 3 (sApp gList (sCons (sBin gAdd (sSl (sVar 1) pNone (pSome (sVar 2))) (sSl (sVar 1) (pSome (sBin gAdd (sVar 2) (sC (.int 1)))) pNone)) (sCons (sBin gAdd (sBin gAdd (sSl (sVar 1) pNone (pSome (sVar 2))) (sVar 4)) (sSl (sVar 1) (pSome (sVar 2)) pNone)) (sCons (sBin gAdd (sBin gAdd (sSl (sVar 1) pNone (pSome (sVar 2))) (sVar 4)) (sSl (sVar 1) (pSome (sBin gAdd (sVar 2) (sC (.int 1)))) pNone)) sNil)))))
 (sSeq (sRet (sCall (tb 5) (vIo 0 (vVal (sBin gAdd (sVar 3) (sApp gList (sCons (sUn gUpper (sVar 1)) (sCons (sSl (sBin gMul (sVar 1) (sC (.int 7))) pNone (pSome (sC (.int 7)))) (sCons (sSl (sBin gMul (sVar 1) (sC (.int 6))) pNone (pSome (sC (.int 6)))) (sCons (sApp gTuple (sCons (sVar 1) sNil)) (sCons (sC .none) (sCons (sC (.int 5)) (sCons (sC (.str "")) sNil))))))))) vNil))))
 sNext))) sNext)
 (sSeq (sIfS (sTru (sUn (gIsi "int") (sVar 1))) (sSeq (sSet false 3 (sApp gList (sCons (sBin gAdd (sVar 1) (sC (.int 1))) (sCons (sBin gSub (sVar 1) (sC (.int 1))) (sCons (sBin gSub (sC (.int 0)) (sVar 1)) (sCons (sC (.int 0)) (sCons (sBin gPow (sC (.int 10)) (sC (.int 6))) (sCons (sBin gAdd (sBin gPow (sC (.int 10)) (sC (.int 6))) (sC (.int 1))) (sCons (sC (.bool true)) (sCons (sC (.bool false)) (sCons (sApp gStr (sCons (sVar 1) sNil)) (sCons (sC .none) (sCons (sApp gTuple (sCons (sVar 1) sNil)) sNil)))))))))))))
 (sSeq (sRet (sCall (tb 5) (vIo 0 (vVal (sBin gAdd (sVar 3) (sApp gList (sCons (sBin gPow (sC (.int 10)) (sC (.int 30))) (sCons (sC (.str "")) (sCons (sUn gNeg (sC (.int 1))) sNil))))) vNil))))
 sNext)) sNext)
 (sSeq (sRet (sCall (tb 5) (vIo 0 (vVal (sApp gList (sCons (sC .none) (sCons (sC (.int 5)) (sCons (sC (.str "a")) (sCons (sApp gTuple sNil) (sCons (sApp gList sNil) (sCons (sMk (.ow (.dict []))) (sCons (sC (.bool true)) (sCons (sApp gList (sCons (sC (.str "a")) sNil)) sNil))))))))) vNil))))
 sNext)))))
noncomputable def b10e0 (tb : Nat → SE) : SE :=
(sVar 1)
noncomputable def b10c0 (tb : Nat → SE) : STs :=
(sTest (sBin gNotIn (sVar 1) (sC (.str "abcdefghijklmnopqrstuvwxyz"))))
noncomputable def b10 (tb : Nat → SE) : SS := /- _law_is_place -/
(sSeq (sIfS (sOrT (sNotT (sTru (sUn (gIsi "str") (sVar 0)))) (sTest (sBin gNotIn (sApp gLen (sCons (sVar 0) sNil)) (sApp gTuple (sCons (sC (.int 1)) (sCons (sC (.int 2)) (sCons (sC (.int 3)) (sCons (sC (.int 4)) (sCons (sC (.int 5)) (sCons (sC (.int 6)) sNil)))))))))) (sSeq (sRet (sC (.bool false)))
 sNext) sNext)
 (sSeq (sRet (sBin gEq (sLc [1] (iSeq (sVar 0)) (gNm 1) (b10c0 tb) (b10e0 tb)) (sApp gList sNil)))
 sNext))
noncomputable def b11f0 (tb : Nat → SE) : SS :=
(sSeq (sIfS (sOrT (sNotT (sTru (sUn (gIsi "int") (sVar 1)))) (sOrT (sTru (sUn (gIsi "bool") (sVar 1))) (sOrT (sTest (sBin gLt (sVar 1) (sC (.int 0)))) (sTest (sBin gGt (sVar 1) (sBin gPow (sC (.int 10)) (sC (.int 6)))))))) (sSeq (sRet (sC (.bool false)))
 sNext) sNext)
 sNext)
noncomputable def b11 (tb : Nat → SE) : SS := /- _law_is_four -/
(sSeq (sIfS (sOrT (sNotT (sTru (sUn (gIsi "tuple") (sVar 0)))) (sTest (sBin gNe (sApp gLen (sCons (sVar 0) sNil)) (sC (.int 4))))) (sSeq (sRet (sC (.bool false)))
 sNext) sNext)
 (sSeq (sFor (iSeq (sSl (sVar 0) pNone (pSome (sC (.int 2))))) (gNm 1) (b11f0 tb))
 (sSeq (sRet (sAndV (sCall (tb 10) (vVal (sBin gIx (sVar 0) (sC (.int 2))) vNil)) (sAndV (sCall (tb 10) (vVal (sBin gIx (sVar 0) (sC (.int 3))) vNil)) (sBin gLt (sBin gIx (sVar 0) (sC (.int 2))) (sBin gIx (sVar 0) (sC (.int 3)))))))
 sNext)))
noncomputable def b12f0 (tb : Nat → SE) : SS :=
(sSeq (sIfS (sOrT (sNotT (sTru (sUn (gIsi "bool") (sVar 1)))) (sTest (sBin gNe (sVar 1) (sVar 2)))) (sSeq (sRet (sC (.bool false)))
 sNext) sNext)
 sNext)
noncomputable def b12 (tb : Nat → SE) : SS := /- _law_told_right -/
(sSeq (sFor (iSeq (sApp gList (sCons (sApp gTuple (sCons (sCall (tb 1) (vVal (sVar 0) vNil)) (sCons (sCall (tb 10) (vVal (sVar 0) vNil)) sNil))) (sCons (sApp gTuple (sCons (sCall (tb 2) (vVal (sVar 0) vNil)) (sCons (sCall (tb 11) (vVal (sVar 0) vNil)) sNil))) sNil)))) (gTp 2 (gsCons (gNm 1) (gsCons (gNm 2) gsNil))) (b12f0 tb))
 (sSeq (sRet (sC (.bool true)))
 sNext))
noncomputable def b13f0 (tb : Nat → SE) : SS :=
(sSeq (sSet false 7 (sCall (tb 9) (vIo 3 (vVal (sVar 7) vNil))))
 sNext)
noncomputable def b13f1 (tb : Nat → SE) : SS :=
(sSeq (sSet false 7 (sCall (tb 5) (vIo 3 (vVal (sApp gList (sCons (sVar 5) (sCons (sVar 5) (sCons (sBin gIx (sVar 5) (sC (.int 2))) (sCons (sBin gIx (sVar 5) (sC (.int 0))) (sCons (sSl (sVar 5) (pSome (sC (.int 2))) pNone) sNil)))))) vNil))))
 (sSeq (sFor (iRng gRng1 (sCons (sCall (tb 4) (vIo 3 (vVal (sC (.int 4)) vNil))) sNil)) (gNm 8) (b13f0 tb))
 (sSeq (sIfS (sOrT (sNotT (sTru (sCall (tb 12) (vVal (sVar 7) vNil)))) (sOrT (sNotT (sTru (sCall (tb 12) (vVal (sVar 5) vNil)))) (sNotT (sTru (sCall (tb 12) (vVal (sBin gIx (sVar 5) (sC (.int 3))) vNil)))))) (sSeq (sRet (sC (.bool false)))
 sNext) sNext)
 sNext)))
noncomputable def b13f2 (tb : Nat → SE) : SS :=
(sSeq (sSet true 3 (sCall (tb 3) (vVal (sVar 2) (vVal (sVar 1) vNil))))
 (sSeq (sSet false 4 (sCall (tb 6) (vIo 3 (vVal (sBin gAdd (sC (.int 2)) (sCall (tb 4) (vIo 3 (vVal (sC (.int 3)) vNil)))) vNil))))
 (sSeq (sSet false 5 (sCall (tb 8) (vIo 3 (vVal (sCall (tb 7) (vIo 3 (vVal (sVar 4) vNil))) vNil))))
 (sSeq (sFor (iRng gRng1 (sCons (sC (.int 4)) sNil)) (gNm 6) (b13f1 tb))
 sNext))))
noncomputable def b13 (tb : Nat → SE) : SS := /- law -/
(sSeq (sFor (iRng gEnum (sCons (sSl (sOrV (sVar 0) (sApp gList (sCons (sC (.int 5)) sNil))) pNone (pSome (sC (.int 12)))) sNil)) (gTp 2 (gsCons (gNm 1) (gsCons (gNm 2) gsNil))) (b13f2 tb))
 (sSeq (sRet (sAndV (sBin gIs (sCall (tb 2) (vVal (sApp gTuple (sCons (sC (.int 0)) (sCons (sC (.int 0)) (sCons (sC (.str "a")) (sCons (sC (.str "aa")) sNil))))) vNil)) (sC (.bool true))) (sBin gIs (sCall (tb 2) (vVal (sApp gTuple (sCons (sC (.int 0)) (sCons (sC (.int 0)) (sCons (sC (.str "aa")) (sCons (sC (.str "a")) sNil))))) vNil)) (sC (.bool false)))))
 sNext))
abbrev st0 : Stmt := top 3
abbrev N0 : List Str := ["thing", "most"]
abbrev ps0 : List Str := ["thing", "most"]
theorem sc0 : FnScope N0 ps0 (defScope st0) := ⟨rfl, rfl, rfl, by decide +kernel, rfl, by decide +kernel, by decide +kernel⟩
abbrev st1 : Stmt := top 4
abbrev N1 : List Str := ["thing", "sign"]
abbrev ps1 : List Str := ["thing"]
theorem sc1 : FnScope N1 ps1 (defScope st1) := ⟨rfl, rfl, rfl, by decide +kernel, rfl, by decide +kernel, by decide +kernel⟩
abbrev st2 : Stmt := top 5
abbrev N2 : List Str := ["thing", "cost", "mark", "one", "other"]
abbrev ps2 : List Str := ["thing"]
theorem sc2 : FnScope N2 ps2 (defScope st2) := ⟨rfl, rfl, rfl, by decide +kernel, rfl, by decide +kernel, by decide +kernel⟩
abbrev st3 : Stmt := top 7
abbrev N3 : List Str := ["cell", "k"]
abbrev ps3 : List Str := ["cell", "k"]
theorem sc3 : FnScope N3 ps3 (defScope st3) := ⟨rfl, rfl, rfl, by decide +kernel, rfl, by decide +kernel, by decide +kernel⟩
abbrev st4 : Stmt := top 8
abbrev N4 : List Str := ["draw", "size", "found"]
abbrev ps4 : List Str := ["draw", "size"]
theorem sc4 : FnScope N4 ps4 (defScope st4) := ⟨rfl, rfl, rfl, by decide +kernel, rfl, by decide +kernel, by decide +kernel⟩
abbrev st5 : Stmt := top 9
abbrev N5 : List Str := ["draw", "some"]
abbrev ps5 : List Str := ["draw", "some"]
theorem sc5 : FnScope N5 ps5 (defScope st5) := ⟨rfl, rfl, rfl, by decide +kernel, rfl, by decide +kernel, by decide +kernel⟩
abbrev st6 : Stmt := top 10
abbrev N6 : List Str := ["draw", "many", "own", "found", "k", "name", "sign"]
abbrev ps6 : List Str := ["draw", "many"]
theorem sc6 : FnScope N6 ps6 (defScope st6) := ⟨rfl, rfl, rfl, by decide +kernel, rfl, by decide +kernel, by decide +kernel⟩
abbrev st7 : Stmt := top 11
abbrev N7 : List Str := ["draw", "spots", "every", "way", "at", "one", "poles", "other", "turn", "pair"]
abbrev ps7 : List Str := ["draw", "spots"]
theorem sc7 : FnScope N7 ps7 (defScope st7) := ⟨rfl, rfl, rfl, by decide +kernel, rfl, by decide +kernel, by decide +kernel⟩
abbrev st8 : Stmt := top 12
abbrev N8 : List Str := ["draw", "pairs", "one", "other", "cost"]
abbrev ps8 : List Str := ["draw", "pairs"]
theorem sc8 : FnScope N8 ps8 (defScope st8) := ⟨rfl, rfl, rfl, by decide +kernel, rfl, by decide +kernel, by decide +kernel⟩
abbrev st9 : Stmt := top 13
abbrev N9 : List Str := ["draw", "thing", "at", "some", "sign"]
abbrev ps9 : List Str := ["draw", "thing"]
theorem sc9 : FnScope N9 ps9 (defScope st9) := ⟨rfl, rfl, rfl, by decide +kernel, rfl, by decide +kernel, by decide +kernel⟩
abbrev st10 : Stmt := top 14
abbrev N10 : List Str := ["thing", "sign"]
abbrev ps10 : List Str := ["thing"]
theorem sc10 : FnScope N10 ps10 (defScope st10) := ⟨rfl, rfl, rfl, by decide +kernel, rfl, by decide +kernel, by decide +kernel⟩
abbrev st11 : Stmt := top 15
abbrev N11 : List Str := ["thing", "number"]
abbrev ps11 : List Str := ["thing"]
theorem sc11 : FnScope N11 ps11 (defScope st11) := ⟨rfl, rfl, rfl, by decide +kernel, rfl, by decide +kernel, by decide +kernel⟩
abbrev st12 : Stmt := top 16
abbrev N12 : List Str := ["thing", "told", "due"]
abbrev ps12 : List Str := ["thing"]
theorem sc12 : FnScope N12 ps12 (defScope st12) := ⟨rfl, rfl, rfl, by decide +kernel, rfl, by decide +kernel, by decide +kernel⟩
abbrev st13 : Stmt := top 17
abbrev N13 : List Str := ["script", "k", "cell", "draw", "spots", "link", "turn", "thing", "bend"]
abbrev ps13 : List Str := ["script"]
theorem sc13 : FnScope N13 ps13 (defScope st13) := ⟨rfl, rfl, rfl, by decide +kernel, rfl, by decide +kernel, by decide +kernel⟩
noncomputable abbrev pds : List PD := [⟨b0, 2, 2, []⟩, ⟨b1, 1, 2, []⟩, ⟨b2, 1, 5, []⟩, ⟨b3, 2, 2, []⟩, ⟨b4, 2, 3, [0]⟩, ⟨b5, 2, 2, [0]⟩, ⟨b6, 2, 7, [0]⟩, ⟨b7, 2, 10, [0]⟩, ⟨b8, 2, 5, [0]⟩, ⟨b9, 2, 5, [0]⟩, ⟨b10, 1, 2, []⟩, ⟨b11, 1, 2, []⟩, ⟨b12, 1, 3, []⟩, ⟨b13, 1, 9, []⟩]
theorem e0 {k : Nat} {bs : List B} : sem pds (k + 1) 0 bs = runDef (b0 (sem pds k)) 2 2 [] bs := rfl
theorem e1 {k : Nat} {bs : List B} : sem pds (k + 1) 1 bs = runDef (b1 (sem pds k)) 1 2 [] bs := rfl
theorem e2 {k : Nat} {bs : List B} : sem pds (k + 1) 2 bs = runDef (b2 (sem pds k)) 1 5 [] bs := rfl
theorem e3 {k : Nat} {bs : List B} : sem pds (k + 1) 3 bs = runDef (b3 (sem pds k)) 2 2 [] bs := rfl
theorem e4 {k : Nat} {bs : List B} : sem pds (k + 1) 4 bs = runDef (b4 (sem pds k)) 2 3 [0] bs := rfl
theorem e5 {k : Nat} {bs : List B} : sem pds (k + 1) 5 bs = runDef (b5 (sem pds k)) 2 2 [0] bs := rfl
theorem e6 {k : Nat} {bs : List B} : sem pds (k + 1) 6 bs = runDef (b6 (sem pds k)) 2 7 [0] bs := rfl
theorem e7 {k : Nat} {bs : List B} : sem pds (k + 1) 7 bs = runDef (b7 (sem pds k)) 2 10 [0] bs := rfl
theorem e8 {k : Nat} {bs : List B} : sem pds (k + 1) 8 bs = runDef (b8 (sem pds k)) 2 5 [0] bs := rfl
theorem e9 {k : Nat} {bs : List B} : sem pds (k + 1) 9 bs = runDef (b9 (sem pds k)) 2 5 [0] bs := rfl
theorem e10 {k : Nat} {bs : List B} : sem pds (k + 1) 10 bs = runDef (b10 (sem pds k)) 1 2 [] bs := rfl
theorem e11 {k : Nat} {bs : List B} : sem pds (k + 1) 11 bs = runDef (b11 (sem pds k)) 1 2 [] bs := rfl
theorem e12 {k : Nat} {bs : List B} : sem pds (k + 1) 12 bs = runDef (b12 (sem pds k)) 1 3 [] bs := rfl
theorem e13 {k : Nat} {bs : List B} : sem pds (k + 1) 13 bs = runDef (b13 (sem pds k)) 1 9 [] bs := rfl
abbrev ats : List (Str × Option Str) := [("is_number", none), ("is_place", none), ("is_link", none), ("_law_begun", none), ("_law_next", none), ("_law_pick", none), ("_law_spots", none), ("_law_pairs", none), ("_law_link", none), ("_law_bent", none), ("_law_is_place", none), ("_law_is_four", none), ("_law_told_right", none), ("law", none)]
abbrev pss : List (List Str) := [ps0, ps1, ps2, ps3, ps4, ps5, ps6, ps7, ps8, ps9, ps10, ps11, ps12, ps13]
abbrev TT (K : Fg) : Tx := ⟨K, fun _ _ _ _ _ => False⟩
structure G (K : Fg) (mg : Str → Option Value) (fds : Nat → FuncData) : Prop where
  F0 : FunD K "is_number" "is_number" (defArgs st0) (defBody st0) (defScope st0) [] [] (He.fAd K ("is_number", none)) (fds 0)
  a0 : FnAt K mg "is_number" (He.fAd K ("is_number", none)) (fds 0) ps0
  F1 : FunD K "is_place" "is_place" (defArgs st1) (defBody st1) (defScope st1) [] [] (He.fAd K ("is_place", none)) (fds 1)
  a1 : FnAt K mg "is_place" (He.fAd K ("is_place", none)) (fds 1) ps1
  F2 : FunD K "is_link" "is_link" (defArgs st2) (defBody st2) (defScope st2) [] [] (He.fAd K ("is_link", none)) (fds 2)
  a2 : FnAt K mg "is_link" (He.fAd K ("is_link", none)) (fds 2) ps2
  F3 : FunD K "_law_begun" "_law_begun" (defArgs st3) (defBody st3) (defScope st3) [] [] (He.fAd K ("_law_begun", none)) (fds 3)
  a3 : FnAt K mg "_law_begun" (He.fAd K ("_law_begun", none)) (fds 3) ps3
  F4 : FunD K "_law_next" "_law_next" (defArgs st4) (defBody st4) (defScope st4) [] [] (He.fAd K ("_law_next", none)) (fds 4)
  a4 : FnAt K mg "_law_next" (He.fAd K ("_law_next", none)) (fds 4) ps4
  F5 : FunD K "_law_pick" "_law_pick" (defArgs st5) (defBody st5) (defScope st5) [] [] (He.fAd K ("_law_pick", none)) (fds 5)
  a5 : FnAt K mg "_law_pick" (He.fAd K ("_law_pick", none)) (fds 5) ps5
  F6 : FunD K "_law_spots" "_law_spots" (defArgs st6) (defBody st6) (defScope st6) [] [] (He.fAd K ("_law_spots", none)) (fds 6)
  a6 : FnAt K mg "_law_spots" (He.fAd K ("_law_spots", none)) (fds 6) ps6
  F7 : FunD K "_law_pairs" "_law_pairs" (defArgs st7) (defBody st7) (defScope st7) [] [] (He.fAd K ("_law_pairs", none)) (fds 7)
  a7 : FnAt K mg "_law_pairs" (He.fAd K ("_law_pairs", none)) (fds 7) ps7
  F8 : FunD K "_law_link" "_law_link" (defArgs st8) (defBody st8) (defScope st8) [] [] (He.fAd K ("_law_link", none)) (fds 8)
  a8 : FnAt K mg "_law_link" (He.fAd K ("_law_link", none)) (fds 8) ps8
  F9 : FunD K "_law_bent" "_law_bent" (defArgs st9) (defBody st9) (defScope st9) [] [] (He.fAd K ("_law_bent", none)) (fds 9)
  a9 : FnAt K mg "_law_bent" (He.fAd K ("_law_bent", none)) (fds 9) ps9
  F10 : FunD K "_law_is_place" "_law_is_place" (defArgs st10) (defBody st10) (defScope st10) [] [] (He.fAd K ("_law_is_place", none)) (fds 10)
  a10 : FnAt K mg "_law_is_place" (He.fAd K ("_law_is_place", none)) (fds 10) ps10
  F11 : FunD K "_law_is_four" "_law_is_four" (defArgs st11) (defBody st11) (defScope st11) [] [] (He.fAd K ("_law_is_four", none)) (fds 11)
  a11 : FnAt K mg "_law_is_four" (He.fAd K ("_law_is_four", none)) (fds 11) ps11
  F12 : FunD K "_law_told_right" "_law_told_right" (defArgs st12) (defBody st12) (defScope st12) [] [] (He.fAd K ("_law_told_right", none)) (fds 12)
  a12 : FnAt K mg "_law_told_right" (He.fAd K ("_law_told_right", none)) (fds 12) ps12
  F13 : FunD K "law" "law" (defArgs st13) (defBody st13) (defScope st13) [] [] (He.fAd K ("law", none)) (fds 13)
  a13 : FnAt K mg "law" (He.fAd K ("law", none)) (fds 13) ps13
  h_all : mg "all" = none
  h_bool : mg "bool" = none
  h_enumerate : mg "enumerate" = none
  h_int : mg "int" = none
  h_isinstance : mg "isinstance" = none
  h_len : mg "len" = none
  h_list : mg "list" = none
  h_max : mg "max" = none
  h_range : mg "range" = none
  h_sorted : mg "sorted" = none
  h_str : mg "str" = none
  h_tuple : mg "tuple" = none
  h_zip : mg "zip" = none
  g_MOST_COST : ∃ t, mg "MOST_COST" = some (.int 1000000 t)
  g_LONGEST_PLACE : ∃ t, mg "LONGEST_PLACE" = some (.int 6 t)
section
variable {w : World} {K : Fg} {mg : Str → Option Value} {base : Heap} {fds : Nat → FuncData}
abbrev Ok (w : World) (K : Fg) (mg : Str → Option Value) (base : Heap) (fds : Nat → FuncData) (k i : Nat) : Prop := Okd PR w (TT K) mg base ats fds pss pds k i
theorem d0 (g : G K mg fds) (k : Nat) (ih : ∀ j, j < 14 → Ok w K mg base fds k j) : Ok w K mg base fds (k + 1) 0 := by
  refine fn_ok (T := TT K) (N := N0) (ps := ps0) (prot := []) (sem := b0 (sem pds k)) g.F0 sc0 (by decide) fun cdv A outer s H E hr => ?_
  have C := Cxt.ofDef (P := PR) (w := w) (T := TT K) (mg := mg) (base := base) (outer := outer) (H := H) (E := E) (l := [0, 1]) (m := [0, 1]) sc0 (by decide +kernel) (by decide +kernel) hr
  exact (s_cons (s_ret (e_and C.hK (e_isi (x := "") C.hK (v_ C (i := 0) rfl rfl) (e_tyName rfl g.h_int boot_int (by decide) (by decide)) rfl g.h_isinstance rfl rfl rfl) (e_and C.hK (e_not C.hK (e_isi (x := "") C.hK (v_ C (i := 0) rfl rfl) (e_tyName rfl g.h_bool boot_bool (by decide) (by decide)) rfl g.h_isinstance rfl rfl rfl)) (e_one (e_chain (k_le C) (k_le C) e_int (v_ C (i := 0) rfl rfl) (v_ C (i := 1) rfl rfl) rfl)))))
 s_nil)
theorem d1 (g : G K mg fds) (k : Nat) (ih : ∀ j, j < 14 → Ok w K mg base fds k j) : Ok w K mg base fds (k + 1) 1 := by
  refine fn_ok (T := TT K) (N := N1) (ps := ps1) (prot := []) (sem := b1 (sem pds k)) g.F1 sc1 (by decide) fun cdv A outer s H E hr => ?_
  have C := Cxt.ofDef (P := PR) (w := w) (T := TT K) (mg := mg) (base := base) (outer := outer) (H := H) (E := E) (l := [0]) (m := [0]) sc1 (by decide +kernel) (by decide +kernel) hr
  exact (s_cons (s_if (PW.pt (w_or (t_not (t_tru C.hK (e_isi (x := "") C.hK (v_ C (i := 0) rfl rfl) (e_tyName rfl g.h_str boot_str (by decide) (by decide)) rfl g.h_isinstance rfl rfl rfl) (fun _ => rfl))) (w_one (t_not (t_chain (k_lt C) (k_le C) e_int (e_callB (x := "len") (j_len C) rfl g.h_len boot_len (a_cons (v_ C (i := 0) rfl rfl) a_nil rfl) (by decide) (by decide) rfl rfl) (gi_ g.g_LONGEST_PLACE rfl (by decide)) rfl)) .Or))) (s_cons (s_ret e_bl)
 s_nil) s_nil)
 (s_cons (s_ret (e_callB (x := "all") (j_all C) rfl g.h_all boot_all (a_cons (lc_ C [1] [1] [("sign", 1)] (by kernel_rfl) (by kernel_rfl) (by kernel_rfl) rfl (i_seq C.hK (v_ C (i := 0) rfl rfl)) (fun _ _ _ _ _ C1 => (nm_ C1 (i := 1) rfl rfl)) (fun _ _ _ _ _ C1 => c_nil) (fun _ _ _ _ _ C1 => (e_chain (k_le C1) (k_le C1) e_str (v_ C1 (i := 1) rfl rfl) e_str rfl)) (fun _ => rfl)) a_nil rfl) (by decide) (by decide) rfl rfl))
 s_nil))
theorem d2 (g : G K mg fds) (k : Nat) (ih : ∀ j, j < 14 → Ok w K mg base fds k j) : Ok w K mg base fds (k + 1) 2 := by
  refine fn_ok (T := TT K) (N := N2) (ps := ps2) (prot := []) (sem := b2 (sem pds k)) g.F2 sc2 (by decide) fun cdv A outer s H E hr => ?_
  have C := Cxt.ofDef (P := PR) (w := w) (T := TT K) (mg := mg) (base := base) (outer := outer) (H := H) (E := E) (l := [0, 1, 2, 3, 4]) (m := [0, 1, 2, 3, 4]) sc2 (by decide +kernel) (by decide +kernel) hr
  exact (s_cons (s_if (PW.pt (w_or (t_not (t_tru C.hK (e_isi (x := "") C.hK (v_ C (i := 0) rfl rfl) (e_tyName rfl g.h_tuple boot_tuple (by decide) (by decide)) rfl g.h_isinstance rfl rfl rfl) (fun _ => rfl))) (w_one (t_cmp (k_ne C) (e_callB (x := "len") (j_len C) rfl g.h_len boot_len (a_cons (v_ C (i := 0) rfl rfl) a_nil rfl) (by decide) (by decide) rfl rfl) e_int rfl) .Or))) (s_cons (s_ret e_bl)
 s_nil) s_nil)
 (s_cons (asg_ rfl (v_ C (i := 0) rfl rfl) (g_tup (n := 4) C.hK C.calm (gs_cons (nm_ C (i := 1) rfl rfl) (gs_cons (nm_ C (i := 2) rfl rfl) (gs_cons (nm_ C (i := 3) rfl rfl) (gs_cons (nm_ C (i := 4) rfl rfl) gs_nil rfl) rfl) rfl) rfl) rfl rfl) rfl rfl rfl)
 (s_cons (s_if (PW.pt (w_or (t_not (t_tru C.hK (call_ (x := "is_number") C (ih 0 (by decide)) g.a0 sem_len (v_val (v_ C (i := 1) rfl rfl) (v_val (gi_ g.g_MOST_COST rfl (by decide)) v_nil rfl) rfl) rfl (by decide) rfl rfl) (fun _ => rfl))) (w_one (t_not (t_tru C.hK (call_ (x := "is_number") C (ih 0 (by decide)) g.a0 sem_len (v_val (v_ C (i := 2) rfl rfl) (v_val (gi_ g.g_MOST_COST rfl (by decide)) v_nil rfl) rfl) rfl (by decide) rfl rfl) (fun _ => rfl))) .Or))) (s_cons (s_ret e_bl)
 s_nil) s_nil)
 (s_cons (s_ret (e_and C.hK (call_ (x := "is_place") C (ih 1 (by decide)) g.a1 sem_len (v_val (v_ C (i := 3) rfl rfl) v_nil rfl) rfl (by decide) rfl rfl) (e_and C.hK (call_ (x := "is_place") C (ih 1 (by decide)) g.a1 sem_len (v_val (v_ C (i := 4) rfl rfl) v_nil rfl) rfl (by decide) rfl rfl) (e_one (e_cmp (k_lt C) (v_ C (i := 3) rfl rfl) (v_ C (i := 4) rfl rfl) rfl)))))
 s_nil))))
theorem d3 (g : G K mg fds) (k : Nat) (ih : ∀ j, j < 14 → Ok w K mg base fds k j) : Ok w K mg base fds (k + 1) 3 := by
  refine fn_ok (T := TT K) (N := N3) (ps := ps3) (prot := []) (sem := b3 (sem pds k)) g.F3 sc3 (by decide) fun cdv A outer s H E hr => ?_
  have C := Cxt.ofDef (P := PR) (w := w) (T := TT K) (mg := mg) (base := base) (outer := outer) (H := H) (E := E) (l := [0, 1]) (m := [0, 1]) sc3 (by decide +kernel) (by decide +kernel) hr
  exact (s_cons (s_ret (e_lst (a_cons (e_callB (x := "max") (j_max C) rfl g.h_max boot_max (a_cons e_int (a_cons (e_op (k_sub C) (v_ C (i := 0) rfl rfl) (e_op (k_pow C) e_int e_int)) a_nil rfl) rfl) (by decide) (by decide) rfl rfl) (a_cons (e_op (k_add C) (v_ C (i := 0) rfl rfl) (e_op (k_mul C) e_int (v_ C (i := 1) rfl rfl))) (a_cons e_int a_nil rfl) rfl) rfl)))
 s_nil)
theorem d4 (g : G K mg fds) (k : Nat) (ih : ∀ j, j < 14 → Ok w K mg base fds k j) : Ok w K mg base fds (k + 1) 4 := by
  refine fn_ok (T := TT K) (N := N4) (ps := ps4) (prot := [0]) (sem := b4 (sem pds k)) g.F4 sc4 (by decide) fun cdv A outer s H E hr => ?_
  have C := Cxt.ofDef (P := PR) (w := w) (T := TT K) (mg := mg) (base := base) (outer := outer) (H := H) (E := E) (l := [0, 1, 2]) (m := [0, 1, 2]) sc4 (by decide +kernel) (by decide +kernel) hr
  exact (s_cons (s_if (t_cmp (k_gt C) (e_lend (i := 0) (e_ix C.hK (v_ C (i := 0) rfl rfl) e_int (fun _ _ => rfl))) e_int rfl) (s_cons (set_ C false (i := 2) rfl rfl rfl (e_op (k_mod C) (e_lend (i := 0) (e_ix C.hK (v_ C (i := 0) rfl rfl) e_int (fun _ _ => rfl))) (v_ C (i := 1) rfl rfl)) rfl)
 (s_cons (setL_ C (i := 0) rfl rfl (e_op (k_fdiv C) (e_lend (i := 0) (e_ix C.hK (v_ C (i := 0) rfl rfl) e_int (fun _ _ => rfl))) (v_ C (i := 1) rfl rfl)) e_int rfl rfl (fun _ => rfl) rfl)
 (s_cons (s_ret (v_ C (i := 2) rfl rfl))
 s_nil))) s_nil)
 (s_cons (setL_ C (i := 0) rfl rfl (e_op (k_add C) (e_lend (i := 0) (e_ix C.hK (v_ C (i := 0) rfl rfl) e_int (fun _ _ => rfl))) e_int) e_int rfl rfl (fun _ => rfl) rfl)
 (s_cons (set_ C false (i := 2) rfl rfl rfl (e_op (k_add C) (e_op (k_mod C) (e_lend (i := 0) (e_ix C.hK (v_ C (i := 0) rfl rfl) e_int (fun _ _ => rfl))) e_int) (e_op (k_mul C) e_int (e_lend (i := 0) (e_ix C.hK (v_ C (i := 0) rfl rfl) e_int (fun _ _ => rfl))))) rfl)
 (s_cons (set_ C false (i := 2) rfl rfl rfl (e_op (k_mul C) (v_ C (i := 2) rfl rfl) (e_op (k_add C) (e_op (k_add C) (e_op (k_mod C) (e_lend (i := 0) (e_ix C.hK (v_ C (i := 0) rfl rfl) e_int (fun _ _ => rfl))) e_int) (e_op (k_mul C) (e_op (k_mul C) e_int (e_lend (i := 0) (e_ix C.hK (v_ C (i := 0) rfl rfl) e_int (fun _ _ => rfl)))) (e_lend (i := 0) (e_ix C.hK (v_ C (i := 0) rfl rfl) e_int (fun _ _ => rfl))))) e_int)) rfl)
 (s_cons (s_ret (e_op (k_mod C) (e_op (k_fdiv C) (e_op (k_mod C) (e_op (k_pow C) (v_ C (i := 2) rfl rfl) e_int) e_int) e_int) (v_ C (i := 1) rfl rfl)))
 s_nil)))))
theorem d5 (g : G K mg fds) (k : Nat) (ih : ∀ j, j < 14 → Ok w K mg base fds k j) : Ok w K mg base fds (k + 1) 5 := by
  refine fn_ok (T := TT K) (N := N5) (ps := ps5) (prot := [0]) (sem := b5 (sem pds k)) g.F5 sc5 (by decide) fun cdv A outer s H E hr => ?_
  have C := Cxt.ofDef (P := PR) (w := w) (T := TT K) (mg := mg) (base := base) (outer := outer) (H := H) (E := E) (l := [0, 1]) (m := [0, 1]) sc5 (by decide +kernel) (by decide +kernel) hr
  exact (s_cons (s_ret (e_ix C.hK (v_ C (i := 1) rfl rfl) (call_ (x := "_law_next") C (ih 4 (by decide)) g.a4 sem_len (vio_ C (i := 0) rfl rfl (v_val (e_callB (x := "len") (j_len C) rfl g.h_len boot_len (a_cons (v_ C (i := 1) rfl rfl) a_nil rfl) (by decide) (by decide) rfl rfl) v_nil rfl) rfl) rfl (by decide) rfl rfl) (fun _ _ => rfl)))
 s_nil)
theorem d6 (g : G K mg fds) (k : Nat) (ih : ∀ j, j < 14 → Ok w K mg base fds k j) : Ok w K mg base fds (k + 1) 6 := by
  refine fn_ok (T := TT K) (N := N6) (ps := ps6) (prot := [0]) (sem := b6 (sem pds k)) g.F6 sc6 (by decide) fun cdv A outer s H E hr => ?_
  have C := Cxt.ofDef (P := PR) (w := w) (T := TT K) (mg := mg) (base := base) (outer := outer) (H := H) (E := E) (l := [0, 1, 2, 3, 4, 5]) (m := [0, 1, 2, 3, 4, 5]) sc6 (by decide +kernel) (by decide +kernel) hr
  exact (s_cons (parC_ C (i := 2) (j := 3) rfl rfl rfl rfl rfl rfl (e_lst (a_cons e_str (a_cons e_str (a_cons e_str (a_cons e_str (a_cons e_str (a_cons e_str (a_cons e_str (a_cons e_str (a_cons e_str (a_cons e_str (a_cons e_str (a_cons e_str a_nil rfl) rfl) rfl) rfl) rfl) rfl) rfl) rfl) rfl) rfl) rfl) rfl)) (e_lst a_nil) rfl rfl (by kernel_rfl) rfl)
 (s_cons (for_ C (passes_of rfl) rfl (i_rng1 rfl g.h_range (a_cons (v_ C (i := 1) rfl rfl) a_nil rfl) rfl) (nm_ C (i := 4) rfl rfl) (s_cons (set_ C false (i := 5) rfl rfl rfl (call_ (x := "_law_pick") C (ih 5 (by decide)) g.a5 sem_len (vio_ C (i := 0) rfl rfl (v_val (v_ C (i := 2) rfl rfl) v_nil rfl) rfl) rfl (by decide) rfl rfl) rfl)
 (s_cons (s_if (t_cmp (k_gt C) (call_ (x := "_law_next") C (ih 4 (by decide)) g.a4 sem_len (vio_ C (i := 0) rfl rfl (v_val e_int v_nil rfl) rfl) rfl (by decide) rfl rfl) e_int rfl) (s_cons (set_ C false (i := 5) rfl rfl rfl (e_join C.hK e_str (lc_ C [0, 6] [6] [("sign", 6)] (by kernel_rfl) (by kernel_rfl) (by kernel_rfl) rfl (i_rng1 rfl g.h_range (a_cons (e_op (k_add C) e_int (call_ (x := "_law_next") C (ih 4 (by decide)) g.a4 sem_len (vio_ C (i := 0) rfl rfl (v_val e_int v_nil rfl) rfl) rfl (by decide) rfl rfl)) a_nil rfl) rfl) (fun _ _ _ _ _ C2 => (nm_ C2 (i := 6) rfl rfl)) (fun _ _ _ _ _ C2 => c_nil) (fun _ _ _ _ _ C2 => (call_ (x := "_law_pick") C2 (ih 5 (by decide)) g.a5 sem_len (vio_ C2 (i := 0) rfl rfl (v_val e_str v_nil rfl) rfl) rfl (by decide) rfl rfl)) (fun _ => rfl)) rfl rfl rfl) rfl)
 s_nil) s_nil)
 (s_cons (s_if (t_lend (i := 3) (t_cmp (k_in C) (v_ C (i := 5) rfl rfl) (v_ C (i := 3) rfl rfl) rfl)) (s_cons (set_ C false (i := 5) rfl rfl rfl (e_ix C.hK (lc_ C [3, 5, 6] [6] [("sign", 6)] (by kernel_rfl) (by kernel_rfl) (by kernel_rfl) rfl (i_seq C.hK e_str) (fun _ _ _ _ _ C1 => (nm_ C1 (i := 6) rfl rfl)) (fun _ _ _ _ _ C1 => (c_one (t_lend (i := 3) (t_cmp (k_notIn C1) (e_op (k_add C1) (e_sl C1.hK (v_ C1 (i := 5) rfl rfl) p_none (p_some e_int)) (v_ C1 (i := 6) rfl rfl)) (v_ C1 (i := 3) rfl rfl) rfl)))) (fun _ _ _ _ _ C1 => (e_op (k_add C1) (e_sl C1.hK (v_ C1 (i := 5) rfl rfl) p_none (p_some e_int)) (v_ C1 (i := 6) rfl rfl))) (fun _ => rfl)) e_int (fun _ _ => rfl)) rfl)
 s_nil) s_nil)
 (s_cons (app_ C (i := 3) rfl rfl (v_ C (i := 5) rfl rfl) rfl rfl rfl rfl rfl)
 s_nil)))) (fun _ => rfl))
 (s_cons (s_ret (e_lend (i := 3) (e_callB (x := "sorted") (j_sorted C) rfl g.h_sorted boot_sorted (a_cons (v_ C (i := 3) rfl rfl) a_nil rfl) (by decide) (by decide) rfl rfl)))
 s_nil)))
theorem d7 (g : G K mg fds) (k : Nat) (ih : ∀ j, j < 14 → Ok w K mg base fds k j) : Ok w K mg base fds (k + 1) 7 := by
  refine fn_ok (T := TT K) (N := N7) (ps := ps7) (prot := [0]) (sem := b7 (sem pds k)) g.F7 sc7 (by decide) fun cdv A outer s H E hr => ?_
  have C := Cxt.ofDef (P := PR) (w := w) (T := TT K) (mg := mg) (base := base) (outer := outer) (H := H) (E := E) (l := [0, 1, 2, 3, 4, 5, 6]) (m := [0, 1, 2, 3, 4, 5, 6]) sc7 (by decide +kernel) (by decide +kernel) hr
  exact (s_cons (parC_ C (i := 2) (j := 3) rfl rfl rfl rfl rfl rfl (e_lst a_nil) (call_ (x := "_law_next") C (ih 4 (by decide)) g.a4 sem_len (vio_ C (i := 0) rfl rfl (v_val e_int v_nil rfl) rfl) rfl (by decide) rfl rfl) rfl rfl (by kernel_rfl) rfl)
 (s_cons (for_ C (passes_of rfl) rfl (i_enum C.hK rfl g.h_enumerate (a_cons (v_ C (i := 1) rfl rfl) a_nil rfl) rfl) (g_tup (n := 2) C.hK C.calm (gs_cons (nm_ C (i := 4) rfl rfl) (gs_cons (nm_ C (i := 5) rfl rfl) gs_nil rfl) rfl) rfl rfl) (s_cons (set_ C false (i := 2) rfl rfl rfl (e_op (k_add C) (v_ C (i := 2) rfl rfl) (lc_ C [5, 7] [7] [("other", 7)] (by kernel_rfl) (by kernel_rfl) (by kernel_rfl) rfl (i_seq C.hK (e_sl C.hK (v_ C (i := 1) rfl rfl) (p_some (e_op (k_add C) (v_ C (i := 4) rfl rfl) e_int)) p_none)) (fun _ _ _ _ _ C3 => (nm_ C3 (i := 7) rfl rfl)) (fun _ _ _ _ _ C3 => c_nil) (fun _ _ _ _ _ C3 => (e_tup (a_cons (v_ C3 (i := 5) rfl rfl) (a_cons (v_ C3 (i := 7) rfl rfl) a_nil rfl) rfl))) (fun _ => rfl))) rfl)
 s_nil) (fun _ => rfl))
 (s_cons (s_if (PW.pt (w_or (t_cmp (k_eq C) (v_ C (i := 3) rfl rfl) e_int rfl) (w_one (t_cmp (k_eq C) (e_callB (x := "len") (j_len C) rfl g.h_len boot_len (a_cons (v_ C (i := 1) rfl rfl) a_nil rfl) (by decide) (by decide) rfl rfl) e_int rfl) .Or))) (s_cons (s_ret (v_ C (i := 2) rfl rfl))
 s_nil) s_nil)
 (s_cons (s_if (t_cmp (k_eq C) (v_ C (i := 3) rfl rfl) e_int rfl) (s_cons (s_ret (lc_ C [0, 2, 8] [8] [("turn", 8)] (by kernel_rfl) (by kernel_rfl) (by kernel_rfl) rfl (i_rng1 rfl g.h_range (a_cons e_int a_nil rfl) rfl) (fun _ _ _ _ _ C2 => (nm_ C2 (i := 8) rfl rfl)) (fun _ _ _ _ _ C2 => c_nil) (fun _ _ _ _ _ C2 => (call_ (x := "_law_pick") C2 (ih 5 (by decide)) g.a5 sem_len (vio_ C2 (i := 0) rfl rfl (v_val (v_ C2 (i := 2) rfl rfl) v_nil rfl) rfl) rfl (by decide) rfl rfl)) (fun _ => rfl)))
 s_nil) s_nil)
 (s_cons (s_if (t_cmp (k_eq C) (v_ C (i := 3) rfl rfl) e_int rfl) (s_cons (set_ C false (i := 6) rfl rfl rfl (e_lst (a_cons (call_ (x := "_law_pick") C (ih 5 (by decide)) g.a5 sem_len (vio_ C (i := 0) rfl rfl (v_val (v_ C (i := 1) rfl rfl) v_nil rfl) rfl) rfl (by decide) rfl rfl) (a_cons (call_ (x := "_law_pick") C (ih 5 (by decide)) g.a5 sem_len (vio_ C (i := 0) rfl rfl (v_val (v_ C (i := 1) rfl rfl) v_nil rfl) rfl) rfl (by decide) rfl rfl) a_nil rfl) rfl)) rfl)
 (s_cons (s_ret (lc_ C [6, 9] [9] [("pair", 9)] (by kernel_rfl) (by kernel_rfl) (by kernel_rfl) rfl (i_seq C.hK (v_ C (i := 2) rfl rfl)) (fun _ _ _ _ _ C1 => (nm_ C1 (i := 9) rfl rfl)) (fun _ _ _ _ _ C1 => (c_one (PW.pt (w_or (t_cmp (k_in C1) (e_ix C1.hK (v_ C1 (i := 9) rfl rfl) e_int (fun _ _ => rfl)) (v_ C1 (i := 6) rfl rfl) rfl) (w_one (t_cmp (k_in C1) (e_ix C1.hK (v_ C1 (i := 9) rfl rfl) e_int (fun _ _ => rfl)) (v_ C1 (i := 6) rfl rfl) rfl) .Or))))) (fun _ _ _ _ _ C1 => (v_ C1 (i := 9) rfl rfl)) (fun _ => rfl)))
 s_nil)) s_nil)
 (s_cons (s_ret (lz_ C g.h_list g.h_zip rfl rfl (a_cons (v_ C (i := 1) rfl rfl) (a_cons (e_sl C.hK (v_ C (i := 1) rfl rfl) (p_some e_int) p_none) a_nil rfl) rfl) rfl rfl rfl))
 s_nil))))))
theorem d8 (g : G K mg fds) (k : Nat) (ih : ∀ j, j < 14 → Ok w K mg base fds k j) : Ok w K mg base fds (k + 1) 8 := by
  refine fn_ok (T := TT K) (N := N8) (ps := ps8) (prot := [0]) (sem := b8 (sem pds k)) g.F8 sc8 (by decide) fun cdv A outer s H E hr => ?_
  have C := Cxt.ofDef (P := PR) (w := w) (T := TT K) (mg := mg) (base := base) (outer := outer) (H := H) (E := E) (l := [0, 1, 2, 3, 4]) (m := [0, 1, 2, 3, 4]) sc8 (by decide +kernel) (by decide +kernel) hr
  exact (s_cons (asg_ rfl (call_ (x := "_law_pick") C (ih 5 (by decide)) g.a5 sem_len (vio_ C (i := 0) rfl rfl (v_val (v_ C (i := 1) rfl rfl) v_nil rfl) rfl) rfl (by decide) rfl rfl) (g_tup (n := 2) C.hK C.calm (gs_cons (nm_ C (i := 2) rfl rfl) (gs_cons (nm_ C (i := 3) rfl rfl) gs_nil rfl) rfl) rfl rfl) rfl rfl rfl)
 (s_cons (set_ C false (i := 4) rfl rfl rfl (call_ (x := "_law_pick") C (ih 5 (by decide)) g.a5 sem_len (vio_ C (i := 0) rfl rfl (v_val (e_lst (a_cons e_int (a_cons e_int (a_cons e_int (a_cons e_int (a_cons (e_op (k_pow C) e_int e_int) (a_cons (call_ (x := "_law_next") C (ih 4 (by decide)) g.a4 sem_len (vio_ C (i := 0) rfl rfl (v_val (e_op (k_add C) (e_op (k_pow C) e_int e_int) e_int) v_nil rfl) rfl) rfl (by decide) rfl rfl) a_nil rfl) rfl) rfl) rfl) rfl) rfl)) v_nil rfl) rfl) rfl (by decide) rfl rfl) rfl)
 (s_cons (s_ret (e_tup (a_cons (v_ C (i := 4) rfl rfl) (a_cons (call_ (x := "_law_pick") C (ih 5 (by decide)) g.a5 sem_len (vio_ C (i := 0) rfl rfl (v_val (e_lst (a_cons e_int (a_cons e_int (a_cons e_int (a_cons (call_ (x := "_law_next") C (ih 4 (by decide)) g.a4 sem_len (vio_ C (i := 0) rfl rfl (v_val (e_op (k_add C) (e_op (k_pow C) e_int e_int) e_int) v_nil rfl) rfl) rfl (by decide) rfl rfl) a_nil rfl) rfl) rfl) rfl)) v_nil rfl) rfl) rfl (by decide) rfl rfl) (a_cons (v_ C (i := 2) rfl rfl) (a_cons (v_ C (i := 3) rfl rfl) a_nil rfl) rfl) rfl) rfl)))
 s_nil)))
theorem d9 (g : G K mg fds) (k : Nat) (ih : ∀ j, j < 14 → Ok w K mg base fds k j) : Ok w K mg base fds (k + 1) 9 := by
  refine fn_ok (T := TT K) (N := N9) (ps := ps9) (prot := [0]) (sem := b9 (sem pds k)) g.F9 sc9 (by decide) fun cdv A outer s H E hr => ?_
  have C := Cxt.ofDef (P := PR) (w := w) (T := TT K) (mg := mg) (base := base) (outer := outer) (H := H) (E := E) (l := [0, 1, 2, 3, 4]) (m := [0, 1, 2, 3, 4]) sc9 (by decide +kernel) (by decide +kernel) hr
  exact (s_cons (s_if (PW.pt (w_and (t_tru C.hK (e_isi (x := "") C.hK (v_ C (i := 1) rfl rfl) (e_tyName rfl g.h_tuple boot_tuple (by decide) (by decide)) rfl g.h_isinstance rfl rfl rfl) (fun _ => rfl)) (w_and (t_cmp (k_ne C) (v_ C (i := 1) rfl rfl) (e_tup a_nil) rfl) (w_one (t_cmp (k_gt C) (call_ (x := "_law_next") C (ih 4 (by decide)) g.a4 sem_len (vio_ C (i := 0) rfl rfl (v_val e_int v_nil rfl) rfl) rfl (by decide) rfl rfl) e_int rfl) .And)))) (s_cons (set_ C false (i := 2) rfl rfl rfl (call_ (x := "_law_next") C (ih 4 (by decide)) g.a4 sem_len (vio_ C (i := 0) rfl rfl (v_val (e_callB (x := "len") (j_len C) rfl g.h_len boot_len (a_cons (v_ C (i := 1) rfl rfl) a_nil rfl) (by decide) (by decide) rfl rfl) v_nil rfl) rfl) rfl (by decide) rfl rfl) rfl)
 (s_cons (s_ret (e_op (k_add C) (e_op (k_add C) (e_sl C.hK (v_ C (i := 1) rfl rfl) p_none (p_some (v_ C (i := 2) rfl rfl))) (e_tup (a_cons (call_ (x := "_law_bent") C (ih 9 (by decide)) g.a9 sem_len (vio_ C (i := 0) rfl rfl (v_val (e_ix C.hK (v_ C (i := 1) rfl rfl) (v_ C (i := 2) rfl rfl) (fun _ _ => rfl)) v_nil rfl) rfl) rfl (by decide) rfl rfl) a_nil rfl))) (e_sl C.hK (v_ C (i := 1) rfl rfl) (p_some (e_op (k_add C) (v_ C (i := 2) rfl rfl) e_int)) p_none)))
 s_nil)) s_nil)
 (s_cons (s_if (t_tru C.hK (e_isi (x := "") C.hK (v_ C (i := 1) rfl rfl) (e_tyName rfl g.h_tuple boot_tuple (by decide) (by decide)) rfl g.h_isinstance rfl rfl rfl) (fun _ => rfl)) (s_cons (set_ C false (i := 2) rfl rfl rfl (call_ (x := "_law_next") C (ih 4 (by decide)) g.a4 sem_len (vio_ C (i := 0) rfl rfl (v_val (e_op (k_add C) (e_callB (x := "len") (j_len C) rfl g.h_len boot_len (a_cons (v_ C (i := 1) rfl rfl) a_nil rfl) (by decide) (by decide) rfl rfl) e_int) v_nil rfl) rfl) rfl (by decide) rfl rfl) rfl)
 (s_cons (set_ C false (i := 3) rfl rfl rfl (e_lst (a_cons (e_op (k_add C) (e_sl C.hK (v_ C (i := 1) rfl rfl) p_none (p_some (v_ C (i := 2) rfl rfl))) (e_sl C.hK (v_ C (i := 1) rfl rfl) (p_some (e_op (k_add C) (v_ C (i := 2) rfl rfl) e_int)) p_none)) (a_cons (e_op (k_add C) (e_op (k_add C) (e_sl C.hK (v_ C (i := 1) rfl rfl) p_none (p_some (v_ C (i := 2) rfl rfl))) (e_sl C.hK (v_ C (i := 1) rfl rfl) (p_some (v_ C (i := 2) rfl rfl)) (p_some (e_op (k_add C) (v_ C (i := 2) rfl rfl) e_int)))) (e_sl C.hK (v_ C (i := 1) rfl rfl) (p_some (v_ C (i := 2) rfl rfl)) p_none)) (a_cons (e_rev C.hK (v_ C (i := 1) rfl rfl)) (a_cons (e_callTy (x := "list") (j_list C) rfl g.h_list boot_list (a_cons (v_ C (i := 1) rfl rfl) a_nil rfl) (by decide) (by decide) rfl rfl) a_nil rfl) rfl) rfl) rfl)) rfl)
 (s_cons (s_ret (call_ (x := "_law_pick") C (ih 5 (by decide)) g.a5 sem_len (vio_ C (i := 0) rfl rfl (v_val (e_op (k_add C) (v_ C (i := 3) rfl rfl) (e_lst (a_cons (e_tup (a_cons (v_ C (i := 1) rfl rfl) a_nil rfl)) (a_cons (e_op (k_add C) (v_ C (i := 1) rfl rfl) (e_tup (a_cons e_int a_nil rfl))) (a_cons e_non (a_cons (e_tup a_nil) a_nil rfl) rfl) rfl) rfl))) v_nil rfl) rfl) rfl (by decide) rfl rfl))
 s_nil))) s_nil)
 (s_cons (s_if (t_tru C.hK (e_isi (x := "") C.hK (v_ C (i := 1) rfl rfl) (e_tyName rfl g.h_str boot_str (by decide) (by decide)) rfl g.h_isinstance rfl rfl rfl) (fun _ => rfl)) (s_cons (par_ C (i := 2) (j := 4) rfl rfl rfl rfl (by decide) rfl rfl (call_ (x := "_law_next") C (ih 4 (by decide)) g.a4 sem_len (vio_ C (i := 0) rfl rfl (v_val (e_op (k_add C) (e_callB (x := "len") (j_len C) rfl g.h_len boot_len (a_cons (v_ C (i := 1) rfl rfl) a_nil rfl) (by decide) (by decide) rfl rfl) e_int) v_nil rfl) rfl) rfl (by decide) rfl rfl) (call_ (x := "_law_pick") C (ih 5 (by decide)) g.a5 sem_len (vio_ C (i := 0) rfl rfl (v_val e_str v_nil rfl) rfl) rfl (by decide) rfl rfl) rfl rfl (by kernel_rfl) rfl)
 (s_cons (set_ C false (i := 3) rfl rfl rfl (e_lst (a_cons (e_op (k_add C) (e_sl C.hK (v_ C (i := 1) rfl rfl) p_none (p_some (v_ C (i := 2) rfl rfl))) (e_sl C.hK (v_ C (i := 1) rfl rfl) (p_some (e_op (k_add C) (v_ C (i := 2) rfl rfl) e_int)) p_none)) (a_cons (e_op (k_add C) (e_op (k_add C) (e_sl C.hK (v_ C (i := 1) rfl rfl) p_none (p_some (v_ C (i := 2) rfl rfl))) (v_ C (i := 4) rfl rfl)) (e_sl C.hK (v_ C (i := 1) rfl rfl) (p_some (v_ C (i := 2) rfl rfl)) p_none)) (a_cons (e_op (k_add C) (e_op (k_add C) (e_sl C.hK (v_ C (i := 1) rfl rfl) p_none (p_some (v_ C (i := 2) rfl rfl))) (v_ C (i := 4) rfl rfl)) (e_sl C.hK (v_ C (i := 1) rfl rfl) (p_some (e_op (k_add C) (v_ C (i := 2) rfl rfl) e_int)) p_none)) a_nil rfl) rfl) rfl)) rfl)
 (s_cons (s_ret (call_ (x := "_law_pick") C (ih 5 (by decide)) g.a5 sem_len (vio_ C (i := 0) rfl rfl (v_val (e_op (k_add C) (v_ C (i := 3) rfl rfl) (e_lst (a_cons (e_upper (v_ C (i := 1) rfl rfl) rfl rfl) (a_cons (e_sl C.hK (e_op (k_mul C) (v_ C (i := 1) rfl rfl) e_int) p_none (p_some e_int)) (a_cons (e_sl C.hK (e_op (k_mul C) (v_ C (i := 1) rfl rfl) e_int) p_none (p_some e_int)) (a_cons (e_tup (a_cons (v_ C (i := 1) rfl rfl) a_nil rfl)) (a_cons e_non (a_cons e_int (a_cons e_str a_nil rfl) rfl) rfl) rfl) rfl) rfl) rfl))) v_nil rfl) rfl) rfl (by decide) rfl rfl))
 s_nil))) s_nil)
 (s_cons (s_if (t_tru C.hK (e_isi (x := "") C.hK (v_ C (i := 1) rfl rfl) (e_tyName rfl g.h_int boot_int (by decide) (by decide)) rfl g.h_isinstance rfl rfl rfl) (fun _ => rfl)) (s_cons (set_ C false (i := 3) rfl rfl rfl (e_lst (a_cons (e_op (k_add C) (v_ C (i := 1) rfl rfl) e_int) (a_cons (e_op (k_sub C) (v_ C (i := 1) rfl rfl) e_int) (a_cons (e_op (k_sub C) e_int (v_ C (i := 1) rfl rfl)) (a_cons e_int (a_cons (e_op (k_pow C) e_int e_int) (a_cons (e_op (k_add C) (e_op (k_pow C) e_int e_int) e_int) (a_cons e_bl (a_cons e_bl (a_cons (e_callTy (x := "str") (j_str C) rfl g.h_str boot_str (a_cons (v_ C (i := 1) rfl rfl) a_nil rfl) (by decide) (by decide) rfl rfl) (a_cons e_non (a_cons (e_tup (a_cons (v_ C (i := 1) rfl rfl) a_nil rfl)) a_nil rfl) rfl) rfl) rfl) rfl) rfl) rfl) rfl) rfl) rfl) rfl)) rfl)
 (s_cons (s_ret (call_ (x := "_law_pick") C (ih 5 (by decide)) g.a5 sem_len (vio_ C (i := 0) rfl rfl (v_val (e_op (k_add C) (v_ C (i := 3) rfl rfl) (e_lst (a_cons (e_op (k_pow C) e_int e_int) (a_cons e_str (a_cons (e_un (k_neg C) e_int) a_nil rfl) rfl) rfl))) v_nil rfl) rfl) rfl (by decide) rfl rfl))
 s_nil)) s_nil)
 (s_cons (s_ret (call_ (x := "_law_pick") C (ih 5 (by decide)) g.a5 sem_len (vio_ C (i := 0) rfl rfl (v_val (e_lst (a_cons e_non (a_cons e_int (a_cons e_str (a_cons (e_tup a_nil) (a_cons (e_lst a_nil) (a_cons e_dict0 (a_cons e_bl (a_cons (e_lst (a_cons e_str a_nil rfl)) a_nil rfl) rfl) rfl) rfl) rfl) rfl) rfl) rfl)) v_nil rfl) rfl) rfl (by decide) rfl rfl))
 s_nil)))))
theorem d10 (g : G K mg fds) (k : Nat) (ih : ∀ j, j < 14 → Ok w K mg base fds k j) : Ok w K mg base fds (k + 1) 10 := by
  refine fn_ok (T := TT K) (N := N10) (ps := ps10) (prot := []) (sem := b10 (sem pds k)) g.F10 sc10 (by decide) fun cdv A outer s H E hr => ?_
  have C := Cxt.ofDef (P := PR) (w := w) (T := TT K) (mg := mg) (base := base) (outer := outer) (H := H) (E := E) (l := [0]) (m := [0]) sc10 (by decide +kernel) (by decide +kernel) hr
  exact (s_cons (s_if (PW.pt (w_or (t_not (t_tru C.hK (e_isi (x := "") C.hK (v_ C (i := 0) rfl rfl) (e_tyName rfl g.h_str boot_str (by decide) (by decide)) rfl g.h_isinstance rfl rfl rfl) (fun _ => rfl))) (w_one (t_cmp (k_notIn C) (e_callB (x := "len") (j_len C) rfl g.h_len boot_len (a_cons (v_ C (i := 0) rfl rfl) a_nil rfl) (by decide) (by decide) rfl rfl) (e_tup (a_cons e_int (a_cons e_int (a_cons e_int (a_cons e_int (a_cons e_int (a_cons e_int a_nil rfl) rfl) rfl) rfl) rfl) rfl)) rfl) .Or))) (s_cons (s_ret e_bl)
 s_nil) s_nil)
 (s_cons (s_ret (e_cmp (k_eq C) (lc_ C [1] [1] [("sign", 1)] (by kernel_rfl) (by kernel_rfl) (by kernel_rfl) rfl (i_seq C.hK (v_ C (i := 0) rfl rfl)) (fun _ _ _ _ _ C1 => (nm_ C1 (i := 1) rfl rfl)) (fun _ _ _ _ _ C1 => (c_one (t_cmp (k_notIn C1) (v_ C1 (i := 1) rfl rfl) e_str rfl))) (fun _ _ _ _ _ C1 => (v_ C1 (i := 1) rfl rfl)) (fun _ => rfl)) (e_lst a_nil) rfl))
 s_nil))
theorem d11 (g : G K mg fds) (k : Nat) (ih : ∀ j, j < 14 → Ok w K mg base fds k j) : Ok w K mg base fds (k + 1) 11 := by
  refine fn_ok (T := TT K) (N := N11) (ps := ps11) (prot := []) (sem := b11 (sem pds k)) g.F11 sc11 (by decide) fun cdv A outer s H E hr => ?_
  have C := Cxt.ofDef (P := PR) (w := w) (T := TT K) (mg := mg) (base := base) (outer := outer) (H := H) (E := E) (l := [0, 1]) (m := [0, 1]) sc11 (by decide +kernel) (by decide +kernel) hr
  exact (s_cons (s_if (PW.pt (w_or (t_not (t_tru C.hK (e_isi (x := "") C.hK (v_ C (i := 0) rfl rfl) (e_tyName rfl g.h_tuple boot_tuple (by decide) (by decide)) rfl g.h_isinstance rfl rfl rfl) (fun _ => rfl))) (w_one (t_cmp (k_ne C) (e_callB (x := "len") (j_len C) rfl g.h_len boot_len (a_cons (v_ C (i := 0) rfl rfl) a_nil rfl) (by decide) (by decide) rfl rfl) e_int rfl) .Or))) (s_cons (s_ret e_bl)
 s_nil) s_nil)
 (s_cons (for_ C (passes_of rfl) rfl (i_seq C.hK (e_sl C.hK (v_ C (i := 0) rfl rfl) p_none (p_some e_int))) (nm_ C (i := 1) rfl rfl) (s_cons (s_if (PW.pt (w_or (t_not (t_tru C.hK (e_isi (x := "") C.hK (v_ C (i := 1) rfl rfl) (e_tyName rfl g.h_int boot_int (by decide) (by decide)) rfl g.h_isinstance rfl rfl rfl) (fun _ => rfl))) (w_or (t_tru C.hK (e_isi (x := "") C.hK (v_ C (i := 1) rfl rfl) (e_tyName rfl g.h_bool boot_bool (by decide) (by decide)) rfl g.h_isinstance rfl rfl rfl) (fun _ => rfl)) (w_or (t_cmp (k_lt C) (v_ C (i := 1) rfl rfl) e_int rfl) (w_one (t_cmp (k_gt C) (v_ C (i := 1) rfl rfl) (e_op (k_pow C) e_int e_int) rfl) .Or))))) (s_cons (s_ret e_bl)
 s_nil) s_nil)
 s_nil) (fun _ => rfl))
 (s_cons (s_ret (e_and C.hK (call_ (x := "_law_is_place") C (ih 10 (by decide)) g.a10 sem_len (v_val (e_ix C.hK (v_ C (i := 0) rfl rfl) e_int (fun _ _ => rfl)) v_nil rfl) rfl (by decide) rfl rfl) (e_and C.hK (call_ (x := "_law_is_place") C (ih 10 (by decide)) g.a10 sem_len (v_val (e_ix C.hK (v_ C (i := 0) rfl rfl) e_int (fun _ _ => rfl)) v_nil rfl) rfl (by decide) rfl rfl) (e_one (e_cmp (k_lt C) (e_ix C.hK (v_ C (i := 0) rfl rfl) e_int (fun _ _ => rfl)) (e_ix C.hK (v_ C (i := 0) rfl rfl) e_int (fun _ _ => rfl)) rfl)))))
 s_nil)))
theorem d12 (g : G K mg fds) (k : Nat) (ih : ∀ j, j < 14 → Ok w K mg base fds k j) : Ok w K mg base fds (k + 1) 12 := by
  refine fn_ok (T := TT K) (N := N12) (ps := ps12) (prot := []) (sem := b12 (sem pds k)) g.F12 sc12 (by decide) fun cdv A outer s H E hr => ?_
  have C := Cxt.ofDef (P := PR) (w := w) (T := TT K) (mg := mg) (base := base) (outer := outer) (H := H) (E := E) (l := [0, 1, 2]) (m := [0, 1, 2]) sc12 (by decide +kernel) (by decide +kernel) hr
  exact (s_cons (for_ C (passes_of rfl) rfl (i_seq C.hK (e_lst (a_cons (e_tup (a_cons (call_ (x := "is_place") C (ih 1 (by decide)) g.a1 sem_len (v_val (v_ C (i := 0) rfl rfl) v_nil rfl) rfl (by decide) rfl rfl) (a_cons (call_ (x := "_law_is_place") C (ih 10 (by decide)) g.a10 sem_len (v_val (v_ C (i := 0) rfl rfl) v_nil rfl) rfl (by decide) rfl rfl) a_nil rfl) rfl)) (a_cons (e_tup (a_cons (call_ (x := "is_link") C (ih 2 (by decide)) g.a2 sem_len (v_val (v_ C (i := 0) rfl rfl) v_nil rfl) rfl (by decide) rfl rfl) (a_cons (call_ (x := "_law_is_four") C (ih 11 (by decide)) g.a11 sem_len (v_val (v_ C (i := 0) rfl rfl) v_nil rfl) rfl (by decide) rfl rfl) a_nil rfl) rfl)) a_nil rfl) rfl))) (g_tup (n := 2) C.hK C.calm (gs_cons (nm_ C (i := 1) rfl rfl) (gs_cons (nm_ C (i := 2) rfl rfl) gs_nil rfl) rfl) rfl rfl) (s_cons (s_if (PW.pt (w_or (t_not (t_tru C.hK (e_isi (x := "") C.hK (v_ C (i := 1) rfl rfl) (e_tyName rfl g.h_bool boot_bool (by decide) (by decide)) rfl g.h_isinstance rfl rfl rfl) (fun _ => rfl))) (w_one (t_cmp (k_ne C) (v_ C (i := 1) rfl rfl) (v_ C (i := 2) rfl rfl) rfl) .Or))) (s_cons (s_ret e_bl)
 s_nil) s_nil)
 s_nil) (fun _ => rfl))
 (s_cons (s_ret e_bl)
 s_nil))
theorem d13 (g : G K mg fds) (k : Nat) (ih : ∀ j, j < 14 → Ok w K mg base fds k j) : Ok w K mg base fds (k + 1) 13 := by
  refine fn_ok (T := TT K) (N := N13) (ps := ps13) (prot := []) (sem := b13 (sem pds k)) g.F13 sc13 (by decide) fun cdv A outer s H E hr => ?_
  have C := Cxt.ofDef (P := PR) (w := w) (T := TT K) (mg := mg) (base := base) (outer := outer) (H := H) (E := E) (l := [0, 1, 2, 3, 4, 5, 6, 7, 8]) (m := [0, 1, 2, 3, 4, 5, 6, 7, 8]) sc13 (by decide +kernel) (by decide +kernel) hr
  exact (s_cons (for_ C (passes_of rfl) rfl (i_enum C.hK rfl g.h_enumerate (a_cons (e_sl C.hK (e_or C.hK (v_ C (i := 0) rfl rfl) (e_one (e_lst (a_cons e_int a_nil rfl)))) p_none (p_some e_int)) a_nil rfl) rfl) (g_tup (n := 2) C.hK C.calm (gs_cons (nm_ C (i := 1) rfl rfl) (gs_cons (nm_ C (i := 2) rfl rfl) gs_nil rfl) rfl) rfl rfl) (s_cons (set_ C true (i := 3) rfl rfl rfl (call_ (x := "_law_begun") C (ih 3 (by decide)) g.a3 sem_len (v_val (v_ C (i := 2) rfl rfl) (v_val (v_ C (i := 1) rfl rfl) v_nil rfl) rfl) rfl (by decide) rfl rfl) rfl)
 (s_cons (set_ C false (i := 4) rfl rfl rfl (call_ (x := "_law_spots") C (ih 6 (by decide)) g.a6 sem_len (vio_ C (i := 3) rfl rfl (v_val (e_op (k_add C) e_int (call_ (x := "_law_next") C (ih 4 (by decide)) g.a4 sem_len (vio_ C (i := 3) rfl rfl (v_val e_int v_nil rfl) rfl) rfl (by decide) rfl rfl)) v_nil rfl) rfl) rfl (by decide) rfl rfl) rfl)
 (s_cons (set_ C false (i := 5) rfl rfl rfl (call_ (x := "_law_link") C (ih 8 (by decide)) g.a8 sem_len (vio_ C (i := 3) rfl rfl (v_val (call_ (x := "_law_pairs") C (ih 7 (by decide)) g.a7 sem_len (vio_ C (i := 3) rfl rfl (v_val (v_ C (i := 4) rfl rfl) v_nil rfl) rfl) rfl (by decide) rfl rfl) v_nil rfl) rfl) rfl (by decide) rfl rfl) rfl)
 (s_cons (for_ C (passes_of rfl) rfl (i_rng1 rfl g.h_range (a_cons e_int a_nil rfl) rfl) (nm_ C (i := 6) rfl rfl) (s_cons (set_ C false (i := 7) rfl rfl rfl (call_ (x := "_law_pick") C (ih 5 (by decide)) g.a5 sem_len (vio_ C (i := 3) rfl rfl (v_val (e_lst (a_cons (v_ C (i := 5) rfl rfl) (a_cons (v_ C (i := 5) rfl rfl) (a_cons (e_ix C.hK (v_ C (i := 5) rfl rfl) e_int (fun _ _ => rfl)) (a_cons (e_ix C.hK (v_ C (i := 5) rfl rfl) e_int (fun _ _ => rfl)) (a_cons (e_sl C.hK (v_ C (i := 5) rfl rfl) (p_some e_int) p_none) a_nil rfl) rfl) rfl) rfl) rfl)) v_nil rfl) rfl) rfl (by decide) rfl rfl) rfl)
 (s_cons (for_ C (passes_of rfl) rfl (i_rng1 rfl g.h_range (a_cons (call_ (x := "_law_next") C (ih 4 (by decide)) g.a4 sem_len (vio_ C (i := 3) rfl rfl (v_val e_int v_nil rfl) rfl) rfl (by decide) rfl rfl) a_nil rfl) rfl) (nm_ C (i := 8) rfl rfl) (s_cons (set_ C false (i := 7) rfl rfl rfl (call_ (x := "_law_bent") C (ih 9 (by decide)) g.a9 sem_len (vio_ C (i := 3) rfl rfl (v_val (v_ C (i := 7) rfl rfl) v_nil rfl) rfl) rfl (by decide) rfl rfl) rfl)
 s_nil) (fun _ => rfl))
 (s_cons (s_if (PW.pt (w_or (t_not (t_tru C.hK (call_ (x := "_law_told_right") C (ih 12 (by decide)) g.a12 sem_len (v_val (v_ C (i := 7) rfl rfl) v_nil rfl) rfl (by decide) rfl rfl) (fun _ => rfl))) (w_or (t_not (t_tru C.hK (call_ (x := "_law_told_right") C (ih 12 (by decide)) g.a12 sem_len (v_val (v_ C (i := 5) rfl rfl) v_nil rfl) rfl (by decide) rfl rfl) (fun _ => rfl))) (w_one (t_not (t_tru C.hK (call_ (x := "_law_told_right") C (ih 12 (by decide)) g.a12 sem_len (v_val (e_ix C.hK (v_ C (i := 5) rfl rfl) e_int (fun _ _ => rfl)) v_nil rfl) rfl (by decide) rfl rfl) (fun _ => rfl))) .Or)))) (s_cons (s_ret e_bl)
 s_nil) s_nil)
 s_nil))) (fun _ => rfl))
 s_nil)))) (fun _ => rfl))
 (s_cons (s_ret (e_and C.hK (e_cmp (k_is C) (call_ (x := "is_link") C (ih 2 (by decide)) g.a2 sem_len (v_val (e_tup (a_cons e_int (a_cons e_int (a_cons e_str (a_cons e_str a_nil rfl) rfl) rfl) rfl)) v_nil rfl) rfl (by decide) rfl rfl) e_bl rfl) (e_one (e_cmp (k_is C) (call_ (x := "is_link") C (ih 2 (by decide)) g.a2 sem_len (v_val (e_tup (a_cons e_int (a_cons e_int (a_cons e_str (a_cons e_str a_nil rfl) rfl) rfl) rfl)) v_nil rfl) rfl (by decide) rfl rfl) e_bl rfl))))
 s_nil))
theorem all (g : G K mg fds) : ∀ k i, i < 14 → Ok w K mg base fds k i := tab fun k ih i hi => by
  match i, hi with
  | 0, _ => exact d0 g k ih
  | 1, _ => exact d1 g k ih
  | 2, _ => exact d2 g k ih
  | 3, _ => exact d3 g k ih
  | 4, _ => exact d4 g k ih
  | 5, _ => exact d5 g k ih
  | 6, _ => exact d6 g k ih
  | 7, _ => exact d7 g k ih
  | 8, _ => exact d8 g k ih
  | 9, _ => exact d9 g k ih
  | 10, _ => exact d10 g k ih
  | 11, _ => exact d11 g k ih
  | 12, _ => exact d12 g k ih
  | 13, _ => exact d13 g k ih
end
/-! ### the head -/
def fn : List He.DefD := [⟨("is_number", none), "is_number", "is_number", defArgs st0, defBody st0, defScope st0, [], []⟩, ⟨("is_place", none), "is_place", "is_place", defArgs st1, defBody st1, defScope st1, [], []⟩, ⟨("is_link", none), "is_link", "is_link", defArgs st2, defBody st2, defScope st2, [], []⟩, ⟨("_law_begun", none), "_law_begun", "_law_begun", defArgs st3, defBody st3, defScope st3, [], []⟩, ⟨("_law_next", none), "_law_next", "_law_next", defArgs st4, defBody st4, defScope st4, [], []⟩, ⟨("_law_pick", none), "_law_pick", "_law_pick", defArgs st5, defBody st5, defScope st5, [], []⟩, ⟨("_law_spots", none), "_law_spots", "_law_spots", defArgs st6, defBody st6, defScope st6, [], []⟩, ⟨("_law_pairs", none), "_law_pairs", "_law_pairs", defArgs st7, defBody st7, defScope st7, [], []⟩, ⟨("_law_link", none), "_law_link", "_law_link", defArgs st8, defBody st8, defScope st8, [], []⟩, ⟨("_law_bent", none), "_law_bent", "_law_bent", defArgs st9, defBody st9, defScope st9, [], []⟩, ⟨("_law_is_place", none), "_law_is_place", "_law_is_place", defArgs st10, defBody st10, defScope st10, [], []⟩, ⟨("_law_is_four", none), "_law_is_four", "_law_is_four", defArgs st11, defBody st11, defScope st11, [], []⟩, ⟨("_law_told_right", none), "_law_told_right", "_law_told_right", defArgs st12, defBody st12, defScope st12, [], []⟩, ⟨("law", none), "law", "law", defArgs st13, defBody st13, defScope st13, [], []⟩]
def fa : List He.Fa := [.glo "is_number", .glo "is_place", .glo "is_link", .glo "_law_begun", .glo "_law_next", .glo "_law_pick", .glo "_law_spots", .glo "_law_pairs", .glo "_law_link", .glo "_law_bent", .glo "_law_is_place", .glo "_law_is_four", .glo "_law_told_right", .glo "law", .free "all", .free "bool", .free "enumerate", .free "int", .free "isinstance", .free "len", .free "list", .free "max", .free "range", .free "sorted", .free "str", .free "tuple", .free "zip", .int "MOST_COST" 1000000, .int "LONGEST_PLACE" 6]
def loose : List Str := ["MOST_COST", "LONGEST_PLACE", "is_number", "is_place", "is_link", "_law_begun", "_law_next", "_law_pick", "_law_spots", "_law_pairs", "_law_link", "_law_bent", "_law_is_place", "_law_is_four", "_law_told_right"]
abbrev R : PySem.W.OpenRow := PySem.W.OpenLaw.row PySem.Challenge.rw_fewkept_k01_places_and_links_known
abbrev hk : PySem.W.Hook := He.hookD 4 fa fn
def ob (s : PySem.W.SharedT) : He.AlD := He.obsDG 4 fa fn (HandSHeadRun.getT s)
theorem ob_eq (s : PySem.W.SharedT) : ob s = hk.obs s.abs := He.obsDG_eq (HandSHeadRun.getT_eq s)
theorem run (w : World) : HandSHeadRun.RunEq R (PySem.W.view R.prog [17]) hk ob 4000 loose w := by
  intro os
  kernel_rfl
theorem link {K : PySem.W.Frag} {h : Heap} {mg : Str → Option Value} (X : K.In h) (G0 : h.Ns mainGlobals mg) (c : He.SaysD fa fn K) : ∃ fds, G K mg fds := by
  obtain ⟨fd0, F0⟩ := c.def_ 0 rfl
  obtain ⟨fd1, F1⟩ := c.def_ 1 rfl
  obtain ⟨fd2, F2⟩ := c.def_ 2 rfl
  obtain ⟨fd3, F3⟩ := c.def_ 3 rfl
  obtain ⟨fd4, F4⟩ := c.def_ 4 rfl
  obtain ⟨fd5, F5⟩ := c.def_ 5 rfl
  obtain ⟨fd6, F6⟩ := c.def_ 6 rfl
  obtain ⟨fd7, F7⟩ := c.def_ 7 rfl
  obtain ⟨fd8, F8⟩ := c.def_ 8 rfl
  obtain ⟨fd9, F9⟩ := c.def_ 9 rfl
  obtain ⟨fd10, F10⟩ := c.def_ 10 rfl
  obtain ⟨fd11, F11⟩ := c.def_ 11 rfl
  obtain ⟨fd12, F12⟩ := c.def_ 12 rfl
  obtain ⟨fd13, F13⟩ := c.def_ 13 rfl
  refine ⟨fun i => ([fd0, fd1, fd2, fd3, fd4, fd5, fd6, fd7, fd8, fd9, fd10, fd11, fd12, fd13] : List FuncData).getD i fd0, ?_⟩
  exact {
    F0 := F0
    a0 := ⟨He.glo_ok X G0 (c.fact 0 rfl), F0.kp, F0.bindsN fun _ _ _ _ _ _ us hl => match us, hl with | [_, _], _ => rfl⟩
    F1 := F1
    a1 := ⟨He.glo_ok X G0 (c.fact 1 rfl), F1.kp, F1.bindsN fun _ _ _ _ _ _ us hl => match us, hl with | [_], _ => rfl⟩
    F2 := F2
    a2 := ⟨He.glo_ok X G0 (c.fact 2 rfl), F2.kp, F2.bindsN fun _ _ _ _ _ _ us hl => match us, hl with | [_], _ => rfl⟩
    F3 := F3
    a3 := ⟨He.glo_ok X G0 (c.fact 3 rfl), F3.kp, F3.bindsN fun _ _ _ _ _ _ us hl => match us, hl with | [_, _], _ => rfl⟩
    F4 := F4
    a4 := ⟨He.glo_ok X G0 (c.fact 4 rfl), F4.kp, F4.bindsN fun _ _ _ _ _ _ us hl => match us, hl with | [_, _], _ => rfl⟩
    F5 := F5
    a5 := ⟨He.glo_ok X G0 (c.fact 5 rfl), F5.kp, F5.bindsN fun _ _ _ _ _ _ us hl => match us, hl with | [_, _], _ => rfl⟩
    F6 := F6
    a6 := ⟨He.glo_ok X G0 (c.fact 6 rfl), F6.kp, F6.bindsN fun _ _ _ _ _ _ us hl => match us, hl with | [_, _], _ => rfl⟩
    F7 := F7
    a7 := ⟨He.glo_ok X G0 (c.fact 7 rfl), F7.kp, F7.bindsN fun _ _ _ _ _ _ us hl => match us, hl with | [_, _], _ => rfl⟩
    F8 := F8
    a8 := ⟨He.glo_ok X G0 (c.fact 8 rfl), F8.kp, F8.bindsN fun _ _ _ _ _ _ us hl => match us, hl with | [_, _], _ => rfl⟩
    F9 := F9
    a9 := ⟨He.glo_ok X G0 (c.fact 9 rfl), F9.kp, F9.bindsN fun _ _ _ _ _ _ us hl => match us, hl with | [_, _], _ => rfl⟩
    F10 := F10
    a10 := ⟨He.glo_ok X G0 (c.fact 10 rfl), F10.kp, F10.bindsN fun _ _ _ _ _ _ us hl => match us, hl with | [_], _ => rfl⟩
    F11 := F11
    a11 := ⟨He.glo_ok X G0 (c.fact 11 rfl), F11.kp, F11.bindsN fun _ _ _ _ _ _ us hl => match us, hl with | [_], _ => rfl⟩
    F12 := F12
    a12 := ⟨He.glo_ok X G0 (c.fact 12 rfl), F12.kp, F12.bindsN fun _ _ _ _ _ _ us hl => match us, hl with | [_], _ => rfl⟩
    F13 := F13
    a13 := ⟨He.glo_ok X G0 (c.fact 13 rfl), F13.kp, F13.bindsN fun _ _ _ _ _ _ us hl => match us, hl with | [_], _ => rfl⟩
    h_all := He.free_ok X G0 (c.fact 14 rfl)
    h_bool := He.free_ok X G0 (c.fact 15 rfl)
    h_enumerate := He.free_ok X G0 (c.fact 16 rfl)
    h_int := He.free_ok X G0 (c.fact 17 rfl)
    h_isinstance := He.free_ok X G0 (c.fact 18 rfl)
    h_len := He.free_ok X G0 (c.fact 19 rfl)
    h_list := He.free_ok X G0 (c.fact 20 rfl)
    h_max := He.free_ok X G0 (c.fact 21 rfl)
    h_range := He.free_ok X G0 (c.fact 22 rfl)
    h_sorted := He.free_ok X G0 (c.fact 23 rfl)
    h_str := He.free_ok X G0 (c.fact 24 rfl)
    h_tuple := He.free_ok X G0 (c.fact 25 rfl)
    h_zip := He.free_ok X G0 (c.fact 26 rfl)
    g_MOST_COST := He.int_ok X G0 (c.fact 27 rfl)
    g_LONGEST_PLACE := He.int_ok X G0 (c.fact 28 rfl)
  }
end Lw
set_option Elab.async false
set_option linter.all false
set_option maxRecDepth 100000
set_option maxHeartbeats 1000000
namespace Lw
open PySem PySem.Spec PyProof.Rows L2 FK
theorem gPow_int {i j : Int} (h : 0 ≤ j ∧ (Builtin.Int.intBits i : Int) * j ≤ 2 ^ 27) : gPow (.int i) (.int j) = some (.fr (.int (i ^ j.toNat))) := if_pos h
theorem p18 : gPow (.int 10) (.int 18) = some (.fr (.int 1000000000000000000)) := gPow_int (by decide)
theorem p6 : gPow (.int 10) (.int 6) = some (.fr (.int 1000000)) := gPow_int (by decide)
theorem p30 : gPow (.int 10) (.int 30) = some (.fr (.int 1000000000000000000000000000000)) := gPow_int (by decide)
theorem szL : sizeLine = 16777216 := rfl
theorem log_le {i : Int} {k : Nat} (h : i.natAbs < 2 ^ k) : i.natAbs.log2 ≤ k := by
  by_cases h0 : i.natAbs = 0
  · rw [h0, Nat.log2_zero]; exact Nat.zero_le _
  · exact Nat.le_of_lt ((Nat.log2_lt h0).mpr h)
theorem bits_le {i : Int} {k : Nat} (h : i.natAbs < 2 ^ k) : Builtin.Int.intBits i ≤ k + 1 := by
  have := log_le h
  unfold Builtin.Int.intBits
  split <;> omega
theorem abs_lt {i : Int} (h : 0 ≤ i ∧ i < 1267650600228229401496703205376) : i.natAbs < 2 ^ 100 := by
  have e : (2 : Nat) ^ 100 = 1267650600228229401496703205376 := by decide
  rw [e]; omega
theorem gMul_of {i j : Int} (hi : 0 ≤ i ∧ i < 1267650600228229401496703205376) (hj : 0 ≤ j ∧ j < 1267650600228229401496703205376) : gMul (.int i) (.int j) = some (.fr (.int (i * j))) := gMul_int (by
  have := log_le (abs_lt hi)
  have := log_le (abs_lt hj)
  omega)
theorem gPow3 {i : Int} (hi : 0 ≤ i ∧ i < 1267650600228229401496703205376) : gPow (.int i) (.int 3) = some (.fr (.int (i ^ 3))) := gPow_int (by
  have := bits_le (abs_lt hi)
  refine ⟨by decide, ?_⟩
  have e : (2 : Int) ^ 27 = 134217728 := by decide
  rw [e]; omega)
def Dr (n : Nat) (d : D) : Prop := ∃ a b c : Int, d = .list [.int a, .int b, .int c] ∧ 0 ≤ a ∧ 0 ≤ c ∧ c ≤ n
theorem gMax_int {i j : Int} : gMax [.int i, .int j] = some (.fr (.int (if j > i then j else i))) := rfl
theorem gList_of {ds : List D} (h : ds.length ≤ 1000) : gList ds = some (.ow (.list ds)) := if_pos (by rw [szL]; omega)
theorem gTuple_of {ds : List D} (h : ds.length ≤ 1000) : gTuple ds = some (.fr (.tuple ds)) := if_pos (by rw [szL]; omega)
theorem begun_ok {k : Nat} {a b : Int} (hb : 0 ≤ b ∧ b < 1000) : ∃ d, Dr 0 d ∧ sem pds (k + 1) 3 [.fr (.int a), .fr (.int b)] = .ok (.ow d) [.fr (.int a), .fr (.int b)] := by
  have hm : gMul (.int 977) (.int b) = some (.fr (.int (977 * b))) := gMul_of (by omega) (by omega)
  rw [e3]
  simp [b3, p18, hm, gMax_int, gList_of]
  refine ⟨_, _, _, rfl, ?_, Int.le_refl _, Int.le_refl _⟩
  split <;> omega
theorem next_ok {k n : Nat} {d : D} {s : Int} (hD : Dr n d) (hn : n ≤ 1000000) (hs : 0 < s) (hs2 : s < 10000000) :
    ∃ r d', Dr (n + 1) d' ∧ 0 ≤ r ∧ r < s ∧ sem pds (k + 1) 4 [.ow d, .fr (.int s)] = .ok (.fr (.int r)) [.ow d', .fr (.int s)] := by
  obtain ⟨a, b, c, rfl, h0, h1, h2⟩ := hD
  have hl : s.natAbs.log2 < 9000 := by
    have h3 : s.natAbs < 2 ^ 24 := by omega
    have := log_le h3
    omega
  rw [e4]
  by_cases ha : 0 < a
  · refine ⟨a % s, .list [.int (a / s), .int b, .int c], ⟨_, _, _, rfl, Int.ediv_nonneg h0 (by omega), h1, by omega⟩, Int.emod_nonneg _ (by omega), Int.emod_lt_of_pos _ hs, ?_⟩
    simp [b4, ha, gMod_int hs, gFdiv_int hs hl]
  · have u0 : 0 ≤ b % 2147483629 := Int.emod_nonneg _ (by decide)
    have u1 : b % 2147483629 < 2147483629 := Int.emod_lt_of_pos _ (by decide)
    have v0 : 0 ≤ b % 2147483587 := Int.emod_nonneg _ (by decide)
    have v1 : b % 2147483587 < 2147483587 := Int.emod_lt_of_pos _ (by decide)
    have m1 : gMod (.int b) (.int 2147483629) = some (.fr (.int (b % 2147483629))) := gMod_int (by decide)
    have m2 : gMod (.int b) (.int 2147483587) = some (.fr (.int (b % 2147483587))) := gMod_int (by decide)
    generalize b % 2147483629 = u at *
    generalize b % 2147483587 = v at *
    have w0 : 0 ≤ 7919 * (c + 1) * (c + 1) := Int.mul_nonneg (by omega) (by omega)
    have w1 : 7919 * (c + 1) * (c + 1) ≤ 7919 * 1000001 * 1000001 := Int.mul_le_mul (by omega) (by omega) (by omega) (by decide)
    have q1 : gMul (.int 104729) (.int (c + 1)) = some (.fr (.int (104729 * (c + 1)))) := gMul_of (by omega) (by omega)
    have q2 : gMul (.int 7919) (.int (c + 1)) = some (.fr (.int (7919 * (c + 1)))) := gMul_of (by omega) (by omega)
    have q3 : gMul (.int (7919 * (c + 1))) (.int (c + 1)) = some (.fr (.int (7919 * (c + 1) * (c + 1)))) := gMul_of (by omega) (by omega)
    generalize 7919 * (c + 1) * (c + 1) = ww at *
    have q4 : gMul (.int (u + 104729 * (c + 1))) (.int (v + ww + 11)) = some (.fr (.int ((u + 104729 * (c + 1)) * (v + ww + 11)))) := gMul_of (by omega) (by omega)
    have x0 : 0 ≤ (u + 104729 * (c + 1)) * (v + ww + 11) := Int.mul_nonneg (by omega) (by omega)
    have x1 : (u + 104729 * (c + 1)) * (v + ww + 11) ≤ 200000000000 * 10000000000000000 := Int.mul_le_mul (by omega) (by omega) (by omega) (by decide)
    generalize (u + 104729 * (c + 1)) * (v + ww + 11) = xx at *
    have q5 : gPow (.int xx) (.int 3) = some (.fr (.int (xx ^ 3))) := gPow3 (by omega)
    have q6 : gMod (.int (xx ^ 3)) (.int 2147483647) = some (.fr (.int (xx ^ 3 % 2147483647))) := gMod_int (by decide)
    have q7 : gFdiv (.int (xx ^ 3 % 2147483647)) (.int 11) = some (.fr (.int (xx ^ 3 % 2147483647 / 11))) := gFdiv_int (by decide) (by decide)
    refine ⟨xx ^ 3 % 2147483647 / 11 % s, .list [.int a, .int b, .int (c + 1)], ⟨_, _, _, rfl, h0, by omega, by omega⟩, Int.emod_nonneg _ (by omega), Int.emod_lt_of_pos _ hs, ?_⟩
    simp [b4, ha, m1, m2, q1, q2, q3, q4, q5, q6, q7, gMod_int hs]
theorem gLen_list {ds : List D} : gLen [.list ds] = some (.fr (.int ds.length)) := rfl
theorem gLen_tuple {ds : List D} : gLen [.tuple ds] = some (.fr (.int ds.length)) := rfl
theorem pick_ok {k n : Nat} {d : D} {xs : List D} (hD : Dr n d) (hn : n ≤ 1000000) (hx : xs ≠ []) (hl : xs.length < 10000000) :
    ∃ x d', x ∈ xs ∧ Dr (n + 1) d' ∧ sem pds (k + 2) 5 [.ow d, .fr (.list xs)] = .ok (.fr x) [.ow d', .fr (.list xs)] := by
  have h0 : 0 < xs.length := List.length_pos_iff.mpr hx
  obtain ⟨r, d', h1, h2, h3, h4⟩ := next_ok (k := k) (s := (xs.length : Int)) hD hn (by omega) (by omega)
  obtain ⟨x, h5, h6⟩ := atI_lt h2 h3
  have h7 : gIx (.list xs) (.int r) = some (.fr x) := by
    show (atI xs r).map B.fr = _
    rw [h6]; rfl
  refine ⟨x, d', h5, h1, ?_⟩
  rw [e5]
  simp [b5, gLen_list, h4, h7]
theorem pickS_ok {k n : Nat} {d : D} {z : Str} (hD : Dr n d) (hn : n ≤ 1000000) (hx : 0 < z.cps.size) (hl : z.cps.size < 10000000) :
    ∃ c d', c ∈ z.cps.toList ∧ Dr (n + 1) d' ∧ sem pds (k + 2) 5 [.ow d, .fr (.str z)] = .ok (.fr (.str ⟨#[c]⟩)) [.ow d', .fr (.str z)] := by
  obtain ⟨r, d', h1, h2, h3, h4⟩ := next_ok (k := k) (s := (z.length : Int)) hD hn (by show (0 : Int) < (z.cps.size : Nat); omega) (by show ((z.cps.size : Nat) : Int) < _; omega)
  have hz : z.length ≤ sizeLine := by rw [szL]; show z.cps.size ≤ _; omega
  obtain ⟨c, h5, h6⟩ := atI_lt (xs := z.cps.toList) h2 (by rw [Array.length_toList]; exact h3)
  have h7 : gIx (.str z) (.int r) = some (.fr (.str ⟨#[c]⟩)) := by
    show (if z.length ≤ sizeLine then (atI z.cps.toList r).map fun c => B.fr (.str ⟨#[c]⟩) else none) = _
    rw [if_pos hz, h6]; rfl
  have h8 : gLen [.str z] = some (.fr (.int z.length)) := if_pos hz
  refine ⟨c, d', h5, h1, ?_⟩
  rw [e5]
  simp [b5, h8, h4, h7]
theorem joinL_nil : ∀ ws : List Nat, TL.joinL [] (ws.map fun c => [c]) = ws
  | [] => rfl
  | [c] => rfl
  | c :: e :: r => by
    show [c] ++ ([] ++ TL.joinL [] ((e :: r).map fun c => [c])) = _
    rw [joinL_nil (e :: r)]; rfl
theorem join_signs (ws : List Nat) : (Txt.join (Str.ofString "") (ws.map fun c => ⟨#[c]⟩)).cps.toList = ws := by
  have h := TL.tl_join (Str.ofString "") (ws.map fun c => ⟨#[c]⟩)
  have e : (ws.map fun c => (⟨#[c]⟩ : Str)).map TL.tl = ws.map fun c => [c] := by rw [List.map_map]; rfl
  rw [e, TL.tl_ofString] at h
  rw [TL.join_eq]
  exact h.trans (joinL_nil ws)
theorem Dr.pure {n : Nat} {d : D} (h : Dr n d) : pureB (.ow d) = true := by
  obtain ⟨a, b, c, rfl, _⟩ := h
  simp
theorem Dr.mono {n m : Nat} {d : D} (h : Dr n d) (hm : n ≤ m) : Dr m d := by
  obtain ⟨a, b, c, e, h0, h1, h2⟩ := h
  exact ⟨a, b, c, e, h0, h1, by omega⟩
def Nm (z : Str) : Prop := z.cps.size ≤ 7 ∧ ∀ c ∈ z.cps.toList, c < 128
theorem strOk_of {z : Str} (h : ∀ c ∈ z.cps.toList, c < 128) : PyData.strOk z = true := by
  unfold PyData.strOk
  rw [Array.all_eq_true]
  intro i hi
  have := h z.cps[i] (by simp [Array.getElem_mem])
  exact decide_eq_true (by omega)
theorem txtsOf_strs : ∀ zs : List Str, txtsOf (zs.map .str) = some zs
  | [] => rfl
  | z :: zs => by
    show (txtsOf (zs.map .str)).map (z :: ·) = _
    rw [txtsOf_strs zs]; rfl
theorem own_names {z : Str} (h : z ∈ ["link", "strike", "net", "sure", "why", "wide", "keeps", "struck", "left", "known", "new", "in"].map Str.ofString) : Nm z := by
  simp only [List.map_cons, List.map_nil, List.mem_cons, List.not_mem_nil, or_false] at h
  unfold Nm
  rcases h with h | h | h | h | h | h | h | h | h | h | h | h <;> subst h <;> decide +kernel
/-- a name of drawn letters -/
theorem letters_ok {k n : Nat} {d : D} {ρ : FK.Env} (hD : Dr n d) (hn : n ≤ 900000) (m : Nat) (hm : m ≤ 10) (hρ : ρ.length = 6) :
    ∃ (ws : List Nat) (d' : D), ws.length = m ∧ (∀ c ∈ ws, c < 128) ∧ Dr (n + m) d' ∧ lcR [6] (gNm 6) sYes (b6e1 (sem pds (k + 2))) (rngL 0 m) [] (.ow d :: ρ) = .ok (.ow (.list (ws.map fun c => .str ⟨#[c]⟩))) (.ow d' :: ρ) := by
  have hl : ∃ x0 x1 x2 x3 x4 x5, ρ = [x0, x1, x2, x3, x4, x5] := by
    match ρ, hρ with
    | [x0, x1, x2, x3, x4, x5], _ => exact ⟨x0, x1, x2, x3, x4, x5, rfl⟩
  obtain ⟨x0, x1, x2, x3, x4, x5, rfl⟩ := hl
  have hz : (Str.ofString "etaoinshrdlcumwfgypbvkjxqz").cps.toList.all (· < 128) = true := by decide +kernel
  have hs : (Str.ofString "etaoinshrdlcumwfgypbvkjxqz").cps.size = 26 := by decide +kernel
  have hr : (rngL 0 m).length = m := by simp [rngL]
  obtain ⟨a', ρ', h1, ws, d', h2, h3, h4, h5, h6⟩ := lcR_inv (vs := [6]) (g := gNm 6) (ct := sYes) (fe := b6e1 (sem pds (k + 2)))
    (fun i a ρ => ∃ (ws : List Nat) (d' : D), ws.length = i ∧ (∀ c ∈ ws, c < 128) ∧ (i ≤ m → Dr (n + i) d') ∧ a = (ws.map fun c => PyData.str ⟨#[c]⟩) ∧ ρ = [.ow d', x0, x1, x2, x3, x4, x5]) (ds := rngL 0 m) (acc := []) (ρ := [.ow d, x0, x1, x2, x3, x4, x5])
    ⟨[], d, rfl, (fun c hc => nomatch hc), fun _ => hD, rfl, rfl⟩ (by rw [hr, szL]; simp; omega) (fun i a ρ ⟨ws, d', h, _, _, e, _⟩ => by rw [e, List.length_map, h]; simp) (fun i e a ρ he ⟨ws, d', h2, h3, h4, h5, h6⟩ => by
      subst h5 h6
      have hi : i < m := by rw [← hr]; exact (List.getElem?_eq_some_iff.mp he).1
      obtain ⟨c, d2, k1, k2, k3⟩ := pickS_ok (k := k) (z := "etaoinshrdlcumwfgypbvkjxqz") (h4 (by omega)) (by omega) (by rw [hs]; omega) (by rw [hs]; omega)
      have kc := of_decide_eq_true (List.all_eq_true.mp hz c k1)
      refine ⟨_, by simp; rfl, .inr ⟨_, rfl, .fr (.str ⟨#[c]⟩), .str ⟨#[c]⟩, [.ow d2, x0, x1, x2, x3, x4, .fr e], by simp [b6e1, k3], rfl, ws ++ [c], d2, by simp [h2], fun x hx => ?_, fun _ => k2, by simp, by simp⟩⟩
      rcases List.mem_append.mp hx with w | w
      · exact h3 x w
      · have : x = c := by simpa using w
        subst this; exact kc)
  subst h5 h6
  rw [hr] at h2 h4
  exact ⟨ws, d', h2, h3, h4 (Nat.le_refl _), h1⟩
theorem cut5 (z : Str) : (cutS z none (some 5)).cps.toList = z.cps.toList.take 5 := by
  unfold cutS HT.sIx
  simp only [List.drop_zero]
  show (z.cps.toList.take (min 5 z.length - 0)) = _
  have e : z.length = z.cps.toList.length := by rw [Array.length_toList]; rfl
  rw [Nat.sub_zero, e]
  rcases Nat.le_total 5 z.cps.toList.length with h | h
  · rw [Nat.min_eq_left h]
  · rw [Nat.min_eq_right h, List.take_length, List.take_of_length_le h]
theorem nm_cut {z : Str} {c : Nat} (h : Nm z) (hc : c < 128) : Nm (cutS z none (some 5) ++ ⟨#[c]⟩) := by
  have e : (cutS z none (some 5) ++ ⟨#[c]⟩ : Str).cps.toList = z.cps.toList.take 5 ++ [c] := by
    have := TL.tl_append (cutS z none (some 5)) ⟨#[c]⟩
    exact this.trans (by rw [show TL.tl (cutS z none (some 5)) = z.cps.toList.take 5 from cut5 z])
  refine ⟨?_, fun x hx => ?_⟩
  · rw [← Array.length_toList, e, List.length_append, List.length_take]; simp; omega
  · rw [e] at hx
    rcases List.mem_append.mp hx with w | w
    · exact h.2 x (List.mem_of_mem_take w)
    · have : x = c := by simpa using w
      subst this; exact hc
theorem len_of {z : Str} (h : Nm z) : z.length ≤ 7 := h.1
theorem eqv_str {x y : Str} : PyData.eqv (.str x) (.str y) = decide (x = y) := by
  show (x == y) = _
  simp [BEq.beq]
theorem okEq_strs {zs : List Str} (h : ∀ z ∈ zs, PyData.strOk z = true) : okEq (.list (zs.map .str)) = true := by
  have h1 : PyData.canLayAll0 (zs.map .str) = true := by
    induction zs with
    | nil => rfl
    | cons z zs ih =>
      show (PyData.canLay0 (.str z) && PyData.canLayAll0 (zs.map .str)) = true
      rw [show PyData.canLay0 (.str z) = PyData.strOk z by rw [PyData.canLay0], h z (by simp), ih fun x hx => h x (by simp [hx])]; rfl
  have h2 : PyData.depthAll (zs.map .str) = 0 := by
    clear h h1
    induction zs with
    | nil => rfl
    | cons z zs ih =>
      show max (PyData.depth (.str z)) (PyData.depthAll (zs.map .str)) = 0
      rw [ih]; rfl
  unfold okEq SeqAt.shaped
  rw [PyData.canLay0, h1, PyData.depth, h2]; rfl
theorem in_strs {z : Str} {f : List Str} (hz : PyData.strOk z = true) (hf : ∀ x ∈ f, PyData.strOk x = true) : inD (.str z) (.list (f.map .str)) = some (decide (z ∈ f)) := by
  show (if okEq (.str z) = true ∧ okEq (.list (f.map .str)) = true then some ((f.map PyData.str).any fun x => PyData.eqv x (.str z)) else none) = _
  rw [if_pos ⟨okEq_str hz, okEq_strs hf⟩, List.any_map]
  congr 1
  rw [Bool.eq_iff_iff]
  simp only [List.any_eq_true, Function.comp_apply, eqv_str, decide_eq_true_eq]
  exact ⟨fun ⟨x, h1, h2⟩ => by rw [← h2]; exact h1, fun h => ⟨z, h, rfl⟩⟩
theorem sok {z : Str} (h : Nm z) : PyData.strOk z = true := strOk_of h.2
/-- the names that are free yet -/
theorem fresh_ok {tb : Nat → SE} {x0 x1 x2 x4 : B} {f : List Str} {z : Str} (hf : ∀ x ∈ f, Nm x) (hl : f.length ≤ 20) (hz : Nm z) (h0 : pureB x0 = true ∨ isFr x0 = true) (h1 : pureB x1 = true ∨ isFr x1 = true) (h2 : pureB x2 = true ∨ isFr x2 = true) (h4 : pureB x4 = true ∨ isFr x4 = true) :
    ∃ (y : Str) (r : List D), Nm y ∧ lcR [6] (gNm 6) (b6c0 tb) (b6e0 tb) ((Str.ofString "abcdefghijklmnopqrstuvwxyz").cps.toList.map fun c => .str ⟨#[c]⟩) [] [x0, x1, x2, .ow (.list (f.map .str)), x4, .fr (.str z), .no]
      = .ok (.ow (.list (.str y :: r))) [x0, x1, x2, .ow (.list (f.map .str)), x4, .fr (.str z), .no] := by
  have hL : (Str.ofString "abcdefghijklmnopqrstuvwxyz").cps.toList.Nodup ∧ (Str.ofString "abcdefghijklmnopqrstuvwxyz").cps.toList.length = 26 ∧ (Str.ofString "abcdefghijklmnopqrstuvwxyz").cps.toList.all (· < 128) = true := by decide +kernel
  generalize (Str.ofString "abcdefghijklmnopqrstuvwxyz").cps.toList = ls at *
  obtain ⟨n1, n2, n3⟩ := hL
  let val : D → D := fun d => match d with
    | .str s => .str (cutS z none (some 5) ++ s)
    | _ => .none
  let p : D → Bool := fun d => match d with
    | .str s => !decide ((cutS z none (some 5) ++ s) ∈ f)
    | _ => false
  have key := lcR_pure (vs := [6]) (g := gNm 6) (ct := b6c0 tb) (fe := b6e0 tb) (fun d => [x0, x1, x2, .ow (.list (f.map .str)), x4, .fr (.str z), .fr d]) p val (ds := ls.map fun c => .str ⟨#[c]⟩) (acc := []) (ρ := [x0, x1, x2, .ow (.list (f.map .str)), x4, .fr (.str z), .no]) (fun d hd => by
    obtain ⟨c, hc, rfl⟩ := List.mem_map.mp hd
    have hc2 := of_decide_eq_true (List.all_eq_true.mp n3 c hc)
    have nn := nm_cut hz hc2
    have g1 : gSl (.str z) none (some 5) = some (.fr (.str (cutS z none (some 5)))) := if_pos (by rw [szL]; have := len_of hz; omega)
    have hcl : (cutS z none (some 5)).length ≤ 7 := by
      show (cutS z none (some 5)).cps.size ≤ 7
      rw [← Array.length_toList, cut5, List.length_take]; omega
    have g2 : gAdd (.str (cutS z none (some 5))) (.str ⟨#[c]⟩) = some (.fr (.str (cutS z none (some 5) ++ ⟨#[c]⟩))) := if_pos (by
      rw [szL]
      have : (⟨#[c]⟩ : Str).length = 1 := rfl
      omega)
    have g3 : gNotIn (.str (cutS z none (some 5) ++ ⟨#[c]⟩)) (.list (f.map .str)) = some (.fr (.bool (!decide ((cutS z none (some 5) ++ ⟨#[c]⟩) ∈ f)))) := by
      unfold gNotIn
      rw [in_strs (sok nn) fun x hx => sok (hf x hx)]; rfl
    refine ⟨by simp, ?_, fun _ => ⟨.fr (.str (cutS z none (some 5) ++ ⟨#[c]⟩)), by simp [b6e0, g1, g2], rfl⟩, by simp⟩
    have hk : okBack 3 (.list (f.map .str)) .no [x0, x1, x2, .ow (.list (f.map .str)), x4, .fr (.str z), .fr (.str ⟨#[c]⟩)] [x0, x1, x2, .fr (.list (f.map .str)), x4, .fr (.str z), .fr (.str ⟨#[c]⟩)] = true := okBack_of rfl rfl (by simp [h0, h1, h2, h4])
    simp [b6c0, g1, g2, g3, hk, p]) (by rw [List.length_map, n2, szL]; decide)
  rw [key]
  obtain ⟨y, m1, m2⟩ := pigeon f (ls.map fun c => cutS z none (some 5) ++ ⟨#[c]⟩) (by
    refine List.Pairwise.map _ (fun a b hab w => hab ?_) n1
    have e : ∀ x : Nat, (cutS z none (some 5) ++ ⟨#[x]⟩ : Str).cps.toList = z.cps.toList.take 5 ++ [x] := fun x => by
      have := TL.tl_append (cutS z none (some 5)) ⟨#[x]⟩
      exact this.trans (by rw [show TL.tl (cutS z none (some 5)) = z.cps.toList.take 5 from cut5 z])
    have w2 : (cutS z none (some 5) ++ ⟨#[a]⟩ : Str).cps.toList = (cutS z none (some 5) ++ ⟨#[b]⟩ : Str).cps.toList := congrArg (fun s : Str => s.cps.toList) w
    rw [e, e] at w2
    simpa using w2) (by rw [List.length_map, n2]; omega)
  obtain ⟨c, hc, rfl⟩ := List.mem_map.mp m1
  have hc2 := of_decide_eq_true (List.all_eq_true.mp n3 c hc)
  have hne : (ls.map fun c => PyData.str ⟨#[c]⟩).filter p ≠ [] := by
    intro w
    have := List.filter_eq_nil_iff.mp w (.str ⟨#[c]⟩) (List.mem_map_of_mem hc)
    exact this (by simp [p, m2])
  cases hfl : (ls.map fun c => PyData.str ⟨#[c]⟩).filter p with
  | nil => exact absurd hfl hne
  | cons e r =>
    have he : e ∈ (ls.map fun c => PyData.str ⟨#[c]⟩).filter p := by rw [hfl]; exact List.mem_cons_self
    obtain ⟨c', hc', rfl⟩ := List.mem_map.mp (List.mem_filter.mp he).1
    have hc3 := of_decide_eq_true (List.all_eq_true.mp n3 c' hc')
    exact ⟨cutS z none (some 5) ++ ⟨#[c']⟩, r.map val, nm_cut hz hc3, rfl⟩
theorem own_strs : (["link", "strike", "net", "sure", "why", "wide", "keeps", "struck", "left", "known", "new", "in"].map Str.ofString).map PyData.str = [.str "link", .str "strike", .str "net", .str "sure", .str "why", .str "wide", .str "keeps", .str "struck", .str "left", .str "known", .str "new", .str "in"] := rfl
theorem nm_of_letters {ws : List Nat} (h : ws.length ≤ 6) (hc : ∀ c ∈ ws, c < 128) : Nm (Txt.join (Str.ofString "") (ws.map fun c => ⟨#[c]⟩)) := by
  refine ⟨?_, fun c hx => ?_⟩
  · rw [← Array.length_toList, join_signs]; omega
  · rw [join_signs] at hx; exact hc c hx
theorem rng1_ok {i : Int} (h : 0 ≤ i) (h2 : i < 1000000) : gRng1 [.int i] = some (rngL 0 i.toNat) := by
  refine if_pos ?_
  unfold rgOk
  exact @decide_eq_true _ (Classical.propDecidable _) (by omega)
theorem join_ok {ws : List Nat} (h : ws.length ≤ 1000) : gJoin (.str (Str.ofString "")) (.list (ws.map fun c => .str ⟨#[c]⟩)) = some (.fr (.str (Txt.join (Str.ofString "") (ws.map fun c => ⟨#[c]⟩)))) := by
  have e : (ws.map fun c => PyData.str ⟨#[c]⟩) = (ws.map fun c => (⟨#[c]⟩ : Str)).map PyData.str := by rw [List.map_map]; rfl
  have h2 : (ws.map fun c => (⟨#[c]⟩ : Str)).map Str.length = ws.map fun _ => 1 := by rw [List.map_map]; rfl
  have h3 : ((ws.map fun c => (⟨#[c]⟩ : Str)).map Str.length).sum = ws.length := by
    rw [h2]
    clear h h2 e
    induction ws with
    | nil => rfl
    | cons c ws ih => simp only [List.map_cons, List.sum_cons, List.length_cons, ih]; omega
  show joinD _ _ = _
  unfold joinD
  rw [e, txtsOf_strs]
  refine if_pos ?_
  rw [h3, List.length_map]
  have : (Str.ofString "").length = 0 := by decide +kernel
  rw [this, Nat.mul_zero]; omega
/-- a turn of the loop -/
theorem spot_turn {k n m : Nat} {d : D} {f : List Str} {xs : List D} {s5 : B} (hD : Dr n d) (hn : n ≤ 800000) (hf : ∀ x ∈ f, Nm x) (hl : f.length ≤ 10) (j : Int) (hx : ∀ x ∈ xs, ∃ z, Nm z ∧ x = .str z) (hx0 : xs ≠ []) (hxl : xs.length < 1000) :
    ∃ (z : Str) (d' : D), Nm z ∧ Dr (n + 9) d' ∧ b6f0 (sem pds (k + 2)) [.ow d, .fr (.int m), .fr (.list xs), .ow (.list (f.map .str)), .fr (.int j), s5, .no]
   = .nx [.ow d', .fr (.int m), .fr (.list xs), .ow (.list ((f ++ [z]).map .str)), .fr (.int j), .fr (.str z), .no] := by
  obtain ⟨x, d1, a1, a2, a3⟩ := pick_ok (k := k) (xs := xs) hD (by omega) hx0 (by omega)
  obtain ⟨z0, N0, rfl⟩ := hx x a1
  obtain ⟨r, d2, c1, c2, c3, c4⟩ := next_ok (k := k + 1) (s := 3) a2 (by omega) (by decide) (by decide)
  -- the rest, of any name
  have rest : ∀ (z : Str) (d2 : D), Nm z → Dr (n + 9) d2 → ∃ y : Str, Nm y ∧ (sSeq (sIfS (sLendT 3 (sTest (sBin gIn (sVar 5) (sVar 3)))) (sSeq (sSet false 5 (sBin gIx (sLc [6] (iSeq (sC (.str "abcdefghijklmnopqrstuvwxyz"))) (gNm 6) (b6c0 (sem pds (k + 2))) (b6e0 (sem pds (k + 2)))) (sC (.int 0))))
 sNext) sNext)
 (sSeq (sAppend 3 (sVar 5))
 sNext)) [.ow d2, .fr (.int m), .fr (.list xs), .ow (.list (f.map .str)), .fr (.int j), .fr (.str z), .no]
   = .nx [.ow d2, .fr (.int m), .fr (.list xs), .ow (.list ((f ++ [y]).map .str)), .fr (.int j), .fr (.str y), .no] := by
    intro z d2 hz h2
    have hp := h2.pure
    have g1 : gIn (.str z) (.list (f.map .str)) = some (.fr (.bool (decide (z ∈ f)))) := by
      unfold gIn
      rw [in_strs (sok hz) fun x hx => sok (hf x hx)]; rfl
    have hk : okBack 3 (.list (f.map .str)) .no [.ow d2, .fr (.int m), .fr (.list xs), .ow (.list (f.map .str)), .fr (.int j), .fr (.str z), .no] [.ow d2, .fr (.int m), .fr (.list xs), .fr (.list (f.map .str)), .fr (.int j), .fr (.str z), .no] = true := okBack_of rfl rfl (by simp [hp])
    have hlt : f.length < sizeLine := by rw [szL]; omega
    by_cases hin : z ∈ f
    · obtain ⟨y, r, k1, k2⟩ := fresh_ok (tb := sem pds (k + 2)) (x0 := .ow d2) (x1 := .fr (.int m)) (x2 := .fr (.list xs)) (x4 := .fr (.int j)) hf (by omega) hz (.inl hp) (.inr rfl) (.inr rfl) (.inr rfl)
      have hit : itD (.str (Str.ofString "abcdefghijklmnopqrstuvwxyz")) = some ((Str.ofString "abcdefghijklmnopqrstuvwxyz").cps.toList.map fun c => .str ⟨#[c]⟩) := rfl
      refine ⟨y, k1, ?_⟩
      simp [g1, hk, hin, hit, k2, hlt]
    · refine ⟨z, hz, ?_⟩
      simp [g1, hk, hin, hlt]
  by_cases hr : 0 < r
  · obtain ⟨r2, d3, q1, q2, q3, q4⟩ := next_ok (k := k + 1) (s := 6) c1 (by omega) (by decide) (by decide)
    have hm : gRng1 [.int (1 + r2)] = some (rngL 0 (1 + r2).toNat) := rng1_ok (by omega) (by omega)
    obtain ⟨ws, d4, l1, l2, l3, l4⟩ := letters_ok (k := k) q1 (by omega) (1 + r2).toNat (by omega) (ρ := [.fr (.int m), .fr (.list xs), .ow (.list (f.map .str)), .fr (.int j), .fr (.str z0), .no]) rfl
    obtain ⟨y, k1, k2⟩ := rest (Txt.join (Str.ofString "") (ws.map fun c => ⟨#[c]⟩)) d4 (nm_of_letters (by omega) l2) (l3.mono (by omega))
    refine ⟨y, d4, k1, l3.mono (by omega), ?_⟩
    simp [b6f0, a3, c4, hr, q4, hm, l4, join_ok (ws := ws) (by omega), k2]
  · obtain ⟨y, k1, k2⟩ := rest z0 d2 N0 (c1.mono (by omega))
    refine ⟨y, d2, k1, c1.mono (by omega), ?_⟩
    simp [b6f0, a3, c4, hr, k2]
theorem strs_of_mem {L : List D} {P : Str → Prop} (h : ∀ d ∈ L, ∃ z, P z ∧ d = .str z) : ∃ zs : List Str, L = zs.map .str ∧ ∀ z ∈ zs, P z := by
  induction L with
  | nil => exact ⟨[], rfl, fun z hz => nomatch hz⟩
  | cons d L ih =>
    obtain ⟨z, h1, rfl⟩ := h d (by simp)
    obtain ⟨zs, h2, h3⟩ := ih fun e he => h e (by simp [he])
    refine ⟨z :: zs, by rw [h2]; rfl, fun x hx => ?_⟩
    rcases List.mem_cons.mp hx with w | w
    · subst w; exact h1
    · exact h3 x w
theorem spots_ok {k n m : Nat} {d : D} (hD : Dr n d) (hn : n ≤ 700000) (hm : m ≤ 10) :
    ∃ (zs : List Str) (d' : D), zs.length = m ∧ (∀ z ∈ zs, Nm z) ∧ Dr (n + 9 * m) d' ∧ sem pds (k + 3) 6 [.ow d, .fr (.int m)] = .ok (.ow (.list (zs.map .str))) [.ow d', .fr (.int m)] := by
  have hr : (rngL 0 m).length = m := by simp [rngL]
  have hg : gRng1 [.int (m : Nat)] = some (rngL 0 m) := by rw [rng1_ok (by omega) (by omega)]; rfl
  have hx : ∀ x ∈ [PyData.str "link", .str "strike", .str "net", .str "sure", .str "why", .str "wide", .str "keeps", .str "struck", .str "left", .str "known", .str "new", .str "in"], ∃ z, Nm z ∧ x = .str z := fun x hx => by
    rw [← own_strs] at hx
    obtain ⟨z, hz, rfl⟩ := List.mem_map.mp hx
    exact ⟨z, own_names hz, rfl⟩
  have hgl : gList [PyData.str "link", .str "strike", .str "net", .str "sure", .str "why", .str "wide", .str "keeps", .str "struck", .str "left", .str "known", .str "new", .str "in"] = some (.ow (.list [PyData.str "link", .str "strike", .str "net", .str "sure", .str "why", .str "wide", .str "keeps", .str "struck", .str "left", .str "known", .str "new", .str "in"])) := gList_of (by decide)
  have hx0 : [PyData.str "link", .str "strike", .str "net", .str "sure", .str "why", .str "wide", .str "keeps", .str "struck", .str "left", .str "known", .str "new", .str "in"] ≠ [] := fun w => nomatch w
  have hxl : [PyData.str "link", .str "strike", .str "net", .str "sure", .str "why", .str "wide", .str "keeps", .str "struck", .str "left", .str "known", .str "new", .str "in"].length < 1000 := by decide
  rw [e6, b6]
  generalize hxs : [PyData.str "link", .str "strike", .str "net", .str "sure", .str "why", .str "wide", .str "keeps", .str "struck", .str "left", .str "known", .str "new", .str "in"] = xs at *
  obtain ⟨ρ', f1, f, d', s4, s5, f2, f3, f4, f5⟩ := forR_inv (g := gNm 4) (b := b6f0 (sem pds (k + 2))) (fun i ρ => ∃ (f : List Str) (d' : D) (s4 s5 : B), f.length = i ∧ (∀ z ∈ f, Nm z) ∧ ((i ≤ m → Dr (n + 9 * i) d') ∧ (isFr s4 = true ∨ s4 = .no) ∧ (isFr s5 = true ∨ s5 = .no)) ∧
    ρ = [.ow d', .fr (.int m), .fr (.list xs), .ow (.list (f.map .str)), s4, s5, .no]) (ds := rngL 0 m)
    (ρ := [.ow d, .fr (.int m), .fr (.list xs), .ow (.list []), .no, .no, .no]) ⟨[], d, .no, .no, rfl, (fun z hz => nomatch hz), ⟨fun _ => hD, .inr rfl, .inr rfl⟩, rfl⟩
    (fun i e ρ he ⟨f, d', s4, s5, h2, h3, h4, h5⟩ => by
      subst h5
      have hi : i < m := by rw [← hr]; exact (List.getElem?_eq_some_iff.mp he).1
      have ee : e = .int (0 + (i : Int)) := by
        unfold rngL at he
        rw [List.getElem?_map, List.getElem?_range hi] at he
        exact (Option.some.inj he).symm
      subst ee
      obtain ⟨z, d2, k1, k2, k3⟩ := spot_turn (k := k) (m := m) (s5 := s5) (h4.1 (by omega)) (by omega) h3 (by omega) (0 + (i : Int)) hx hx0 hxl
      refine ⟨_, by simp, _, .inl k3, f ++ [z], d2, _, _, by simp [h2], fun x hx => ?_, ⟨fun _ => k2.mono (by omega), .inl rfl, .inl rfl⟩, rfl⟩
      rcases List.mem_append.mp hx with w | w
      · exact h3 x w
      · have : x = z := by simpa using w
        subst this; exact k1)
  subst f5
  rw [hr] at f2 f4
  have hsrt := gSorted_strs (zs := f) (fun z hz => sok (f3 z hz)) (by rw [szL]; omega)
  obtain ⟨zs, g1, g2⟩ := strs_of_mem (L := (f.map PyData.str).mergeSort (PySem.W.dataLe false id)) (P := Nm) fun d hd => by
    have := (List.mergeSort_perm _ _).mem_iff.mp hd
    obtain ⟨z, hz, rfl⟩ := List.mem_map.mp this
    exact ⟨z, f3 z hz, rfl⟩
  have gl : zs.length = m := by
    have := congrArg List.length g1
    rw [List.length_mergeSort, List.length_map, List.length_map] at this
    omega
  rw [g1] at hsrt
  have hpl : pureL (zs.map .str) = true := pureL_all fun d hd => by
    obtain ⟨z, _, rfl⟩ := List.mem_map.mp hd
    rfl
  have hD' := f4.1 (Nat.le_refl _)
  have hp := hD'.pure
  have c4 : pureB s4 = true ∨ isFr s4 = true := f4.2.1.elim .inr fun w => by subst w; exact .inl rfl
  have c5 : pureB s5 = true ∨ isFr s5 = true := f4.2.2.elim .inr fun w => by subst w; exact .inl rfl
  have hk : okBack 3 (.list (f.map .str)) (.ow (.list (zs.map .str))) [.ow d', .fr (.int m), .fr (.list xs), .ow (.list (f.map .str)), s4, s5, .no] [.ow d', .fr (.int m), .fr (.list xs), .fr (.list (f.map .str)), s4, s5, .no] = true := okBack_of hpl rfl (by simp [hp, c4, c5])
  refine ⟨zs, d', gl, g2, hD', ?_⟩
  simp [hxs, hgl, gList_of, hg, f1, hsrt, hk]
theorem cutD_from {ds : List D} (j : Nat) : FK.cutD ds (some (j : Int)) none = ds.drop j := by
  unfold FK.cutD
  rw [HT.sIx_none, HT.sIx_nat]
  rcases Nat.le_total j ds.length with h | h
  · rw [Nat.min_eq_left h, List.take_of_length_le (by rw [List.length_drop]; exact Nat.le_refl _)]
  · rw [Nat.min_eq_right h, List.drop_length, List.drop_of_length_le h, List.take_nil]
def Pr (p : D) : Prop := ∃ x y, Nm x ∧ Nm y ∧ p = .tuple [.str x, .str y]
theorem pair_turn {tb : Nat → SE} {d : D} {zs : List D} {E : List D} {w : Int} {s6 one : D} {x6 : B} (i : Nat) (hE : E.length ≤ 100) (hz : zs.length ≤ 10) :
    b7f0 tb [.ow d, .fr (.list zs), .fr (.list E), .fr (.int w), .fr (.int i), .fr one, x6, .no, .no, .no] = .nx [.ow d, .fr (.list zs), .fr (.list (E ++ (zs.drop (i + 1)).map fun o => .tuple [one, o])), .fr (.int w), .fr (.int i), .fr one, x6, .no, .no, .no] := by
  have g1 : gSl (.list zs) (some ((i : Int) + 1)) none = some (.ow (.list (zs.drop (i + 1)))) := by
    show some (B.ow (.list (FK.cutD zs (some ((i : Int) + 1)) none))) = _
    rw [show ((i : Int) + 1) = ((i + 1 : Nat) : Int) by omega, cutD_from]
  have g2 := lcR_pure (vs := [7]) (g := gNm 7) (ct := sYes) (fe := b7e2 tb) (fun o => [.ow d, .fr (.list zs), .fr (.list E), .fr (.int w), .fr (.int i), .fr one, x6, .fr o, .no, .no]) (fun _ => true) (fun o => .tuple [one, o]) (ds := zs.drop (i + 1)) (acc := []) (ρ := [.ow d, .fr (.list zs), .fr (.list E), .fr (.int w), .fr (.int i), .fr one, x6, .no, .no, .no]) (fun o _ => ⟨by simp, rfl, fun _ => ⟨.fr (.tuple [one, o]), by simp [b7e2, gTuple_of], rfl⟩, by simp⟩) (by rw [szL, List.length_drop]; simp only [List.length_nil]; omega)
  rw [List.filter_eq_self.mpr (fun _ _ => rfl), List.nil_append] at g2
  have g3 : gAdd (.list E) (.list ((zs.drop (i + 1)).map fun o => .tuple [one, o])) = some (.ow (.list (E ++ (zs.drop (i + 1)).map fun o => .tuple [one, o]))) := if_pos (by rw [szL, List.length_map, List.length_drop]; omega)
  have g4 : itD (.list (zs.drop (i + 1))) = some (zs.drop (i + 1)) := rfl
  simp [-List.map_drop, b7f0, g1, g2, g3, g4]
theorem enum_get {zs : List D} {i : Nat} {e : D} (h : (pairsAt (rngL 0 zs.length) zs)[i]? = some e) : ∃ z, zs[i]? = some z ∧ e = .tuple [.int (i : Int), z] := by
  unfold pairsAt at h
  rw [List.getElem?_zipWith] at h
  cases hz : zs[i]? with
  | none => rw [hz] at h; simp at h
  | some z =>
    have hi := (List.getElem?_eq_some_iff.mp hz).1
    unfold rngL at h
    rw [hz, List.getElem?_map, List.getElem?_range hi] at h
    refine ⟨z, rfl, ?_⟩
    have h : some (PyData.tuple [.int (0 + (i : Int)), z]) = some e := h
    rw [Int.zero_add] at h
    exact (Option.some.inj h).symm
theorem pairs_loop {tb : Nat → SE} {d : D} {zs : List Str} {w : Int} (hz : zs.length ≤ 10) (hN : ∀ z ∈ zs, Nm z) :
    ∃ (E : List D) (s4 s5 : B), (∀ p ∈ E, Pr p) ∧ E.length ≤ 100 ∧ (∀ (a b : Nat) (x y : Str), a < b → zs[a]? = some x → zs[b]? = some y → PyData.tuple [.str x, .str y] ∈ E) ∧
    forR (gTp 2 (gsCons (gNm 4) (gsCons (gNm 5) gsNil))) (b7f0 tb) (pairsAt (rngL 0 (zs.map PyData.str).length) (zs.map .str)) [.ow d, .fr (.list (zs.map .str)), .fr (.list []), .fr (.int w), .no, .no, .no, .no, .no, .no] = .nx [.ow d, .fr (.list (zs.map .str)), .fr (.list E), .fr (.int w), s4, s5, .no, .no, .no, .no] := by
  have hlen : (pairsAt (rngL 0 (zs.map PyData.str).length) (zs.map PyData.str)).length = zs.length := by unfold pairsAt rngL; simp
  obtain ⟨ρ', f1, E, s4, s5, e1, e2, e3, e4⟩ := forR_inv (g := gTp 2 (gsCons (gNm 4) (gsCons (gNm 5) gsNil))) (b := b7f0 tb) (fun i ρ => ∃ (E : List D) (s4 s5 : B), (∀ p ∈ E, Pr p) ∧ (i ≤ 10 → E.length ≤ 10 * i) ∧ (∀ (a b : Nat) (x y : Str), a < i → a < b → zs[a]? = some x → zs[b]? = some y → PyData.tuple [.str x, .str y] ∈ E) ∧
    ρ = [.ow d, .fr (.list (zs.map .str)), .fr (.list E), .fr (.int w), s4, s5, .no, .no, .no, .no]) (ds := pairsAt (rngL 0 (zs.map PyData.str).length) (zs.map .str)) (ρ := [.ow d, .fr (.list (zs.map .str)), .fr (.list []), .fr (.int w), .no, .no, .no, .no, .no, .no])
    ⟨[], .no, .no, (fun p hp => nomatch hp), (fun _ => Nat.zero_le _), (fun a b x y h => by omega), rfl⟩
    (fun i e ρ he ⟨E, s4, s5, h1, h2, h3, h4⟩ => by
      subst h4
      have hi : i < zs.length := by rw [← hlen]; exact (List.getElem?_eq_some_iff.mp he).1
      obtain ⟨z, hz1, rfl⟩ := enum_get he
      rw [List.getElem?_map] at hz1
      have hzi : zs[i]? = some zs[i] := List.getElem?_eq_getElem hi
      rw [hzi] at hz1
      cases hz1
      have h2' := h2 (by omega)
      refine ⟨_, by simp, _, .inl (pair_turn (tb := tb) (d := d) (zs := zs.map .str) (E := E) (w := w) (s6 := .none) (one := .str zs[i]) (x6 := .no) i (by omega) (by rw [List.length_map]; exact hz)), _, _, _, fun p hp => ?_, fun hi2 => ?_, fun a b x y ha hab hx hy => ?_, rfl⟩
      · rcases List.mem_append.mp hp with q | q
        · exact h1 p q
        · obtain ⟨o, ho, rfl⟩ := List.mem_map.mp q
          obtain ⟨y, hy, rfl⟩ := List.mem_map.mp (List.mem_of_mem_drop ho)
          exact ⟨zs[i], y, hN _ (List.getElem_mem hi), hN _ hy, rfl⟩
      · rw [List.length_append, List.length_map, List.length_drop, List.length_map]; omega
      · rcases Nat.lt_or_ge a i with q | q
        · exact List.mem_append_left _ (h3 a b x y q hab hx hy)
        · have : a = i := by omega
          subst this
          rw [hzi] at hx
          cases hx
          refine List.mem_append_right _ (List.mem_map.mpr ⟨.str y, ?_, rfl⟩)
          rw [← List.map_drop]
          refine List.mem_map.mpr ⟨y, ?_, rfl⟩
          have hb := (List.getElem?_eq_some_iff.mp hy)
          obtain ⟨hb1, hb2⟩ := hb
          rw [List.mem_iff_getElem]
          exact ⟨b - (a + 1), by rw [List.length_drop]; omega, by rw [List.getElem_drop, ← hb2]; congr 1; omega⟩)
  rw [hlen] at e2 e3
  exact ⟨E, s4, s5, e1, by have := e2 hz; omega, fun a b x y hab hx hy => e3 a b x y (List.getElem?_eq_some_iff.mp hx).1 hab hx hy, by rw [f1, e4]⟩
theorem Pr.okEq {p : D} (h : Pr p) : okEq p = true := by
  obtain ⟨x, y, hx, hy, rfl⟩ := h
  unfold FK.okEq SeqAt.shaped PyData.canLay0 PyData.canLayAll0 PyData.canLayAll0 PyData.canLayAll0 PyData.canLay0
  rw [sok hx, sok hy]
  rfl
theorem gLz_ok {xs ys : List D} (hx : xs.length ≤ 1000) : gLz [.list xs, .list ys] = some (.ow (.list (pairsAt xs ys))) := by
  refine if_pos ?_
  unfold pairsAt
  rw [List.length_zipWith, szL]; omega
theorem pairs_ok {k n : Nat} {d : D} {zs : List Str} (hD : Dr n d) (hn : n ≤ 600000) (h2 : 2 ≤ zs.length) (hz : zs.length ≤ 10) (hN : ∀ z ∈ zs, Nm z) :
    ∃ (E : List D) (b : B) (d' : D), frz b = some (.list E) ∧ E ≠ [] ∧ E.length ≤ 1000 ∧ (∀ p ∈ E, Pr p) ∧ Dr (n + 4) d' ∧ sem pds (k + 3) 7 [.ow d, .fr (.list (zs.map .str))] = .ok b [.ow d', .fr (.list (zs.map .str))] := by
  obtain ⟨r, d1, a1, a2, a3, a4⟩ := next_ok (k := k + 1) (s := 4) hD (by omega) (by decide) (by decide)
  obtain ⟨E, s4, s5, e1, e2, e3, e4⟩ := pairs_loop (tb := sem pds (k + 2)) (d := d1) (w := r) hz hN
  have hne : E ≠ [] := fun w => by
    have := e3 0 1 zs[0] zs[1] (by omega) (List.getElem?_eq_getElem (by omega)) (List.getElem?_eq_getElem (by omega))
    rw [w] at this
    exact nomatch this
  have hen : gEnum [.list (zs.map .str)] = some (pairsAt (rngL 0 (zs.map PyData.str).length) (zs.map .str)) := rfl
  have hgl : gList [] = some (.ow (.list [])) := gList_of (by simp)
  rw [List.length_map] at e4 hen
  have hgn : gLen [.list (zs.map .str)] = some (.fr (.int (zs.length : Nat))) := by rw [gLen_list, List.length_map]
  rw [e7]
  by_cases hc : (zs.length : Int) = 2
  · refine ⟨E, .fr (.list E), d1, rfl, hne, by omega, e1, a1.mono (by omega), ?_⟩
    by_cases h0 : r = 0
    · subst h0
      simp [b7, hgl, a4, hen, e4]
    · simp [b7, hgl, a4, hen, e4, h0, hgn, hc]
  · have hr : r = 0 ∨ r = 1 ∨ r = 2 ∨ r = 3 := by omega
    rcases hr with rfl | rfl | rfl | rfl
    · refine ⟨E, .fr (.list E), d1, rfl, hne, by omega, e1, a1.mono (by omega), ?_⟩
      simp [b7, hgl, a4, hen, e4]
    · have hg : gRng1 [.int 3] = some (rngL 0 3) := rng1_ok (by omega) (by omega)
      obtain ⟨acc, ρ', c1, d2, c2, c3, c4, c5⟩ := lcR_inv (vs := [8]) (g := gNm 8) (ct := sYes) (fe := b7e1 (sem pds (k + 2))) (fun i a ρ => ∃ (d' : D), a.length = i ∧ (∀ p ∈ a, Pr p) ∧ (i ≤ 3 → Dr (n + 1 + i) d') ∧ ρ = [.ow d', .fr (.list (zs.map .str)), .fr (.list E), .fr (.int 1), s4, s5, .no, .no, .no, .no])
        (ds := rngL 0 3) (acc := []) (ρ := [.ow d1, .fr (.list (zs.map .str)), .fr (.list E), .fr (.int 1), s4, s5, .no, .no, .no, .no]) ⟨d1, rfl, (fun p hp => nomatch hp), fun _ => a1, rfl⟩ (by rw [szL]; decide) (fun i a ρ ⟨_, h, _⟩ => by rw [h]; simp) (fun i e a ρ he ⟨d', h1, h2, h3, h4⟩ => by
          subst h4
          have hi : i < 3 := (List.getElem?_eq_some_iff.mp he).1
          obtain ⟨x, d2, k1, k2, k3⟩ := pick_ok (k := k) (xs := E) (h3 (by omega)) (by omega) hne (by omega)
          refine ⟨_, by simp; rfl, .inr ⟨_, rfl, .fr x, x, [.ow d2, .fr (.list (zs.map .str)), .fr (.list E), .fr (.int 1), s4, s5, .no, .no, .fr e, .no], by simp [b7e1, k3], rfl, d2, by simp [h1], fun p hp => ?_, fun _ => k2, by simp⟩⟩
          rcases List.mem_append.mp hp with q | q
          · exact h2 p q
          · have : p = x := by simpa using q
            subst this; exact e1 p k1)
      subst c5
      have c2' : acc.length = 3 := c2
      refine ⟨acc, .ow (.list acc), d2, rfl, (fun w => by rw [w] at c2'; cases c2'), by omega, c3, c4 (Nat.le_refl _), ?_⟩
      simp [b7, hgl, a4, hen, e4, hgn, hc, hg, c1]
    · obtain ⟨p1, d2, u1, u2, u3⟩ := pick_ok (k := k) (xs := zs.map .str) a1 (by omega) (fun w => by rw [List.map_eq_nil_iff] at w; rw [w] at h2; simp at h2) (by rw [List.length_map]; omega)
      obtain ⟨p2, d3, v1, v2, v3⟩ := pick_ok (k := k) (xs := zs.map .str) u2 (by omega) (fun w => by rw [List.map_eq_nil_iff] at w; rw [w] at h2; simp at h2) (by rw [List.length_map]; omega)
      obtain ⟨z1, hz1, rfl⟩ := List.mem_map.mp u1
      obtain ⟨z2, hz2, rfl⟩ := List.mem_map.mp v1
      let q : D → Bool := fun p => match p with
        | .tuple [.str x, .str y] => decide (x ∈ [z1, z2]) || decide (y ∈ [z1, z2])
        | _ => false
      have hP : ∀ x ∈ [z1, z2], PyData.strOk x = true := fun x hx => by
        rcases List.mem_cons.mp hx with w | w
        · subst w; exact sok (hN _ hz1)
        · have : x = z2 := by simpa using w
          subst this; exact sok (hN _ hz2)
      have key := lcR_pure (vs := [9]) (g := gNm 9) (ct := b7c0 (sem pds (k + 2))) (fe := b7e0 (sem pds (k + 2))) (fun p => [.ow d3, .fr (.list (zs.map .str)), .fr (.list E), .fr (.int 2), s4, s5, .fr (.list [.str z1, .str z2]), .no, .no, .fr p]) q id (ds := E) (acc := [])
        (ρ := [.ow d3, .fr (.list (zs.map .str)), .fr (.list E), .fr (.int 2), s4, s5, .fr (.list [.str z1, .str z2]), .no, .no, .no]) (fun p hp => by
          obtain ⟨x, y, hx, hy, rfl⟩ := e1 p hp
          have i1 : gIn (.str x) (.list [.str z1, .str z2]) = some (.fr (.bool (decide (x ∈ [z1, z2])))) := by
            unfold gIn
            rw [show [PyData.str z1, .str z2] = [z1, z2].map PyData.str from rfl, in_strs (sok hx) hP]; rfl
          have i2 : gIn (.str y) (.list [.str z1, .str z2]) = some (.fr (.bool (decide (y ∈ [z1, z2])))) := by
            unfold gIn
            rw [show [PyData.str z1, .str z2] = [z1, z2].map PyData.str from rfl, in_strs (sok hy) hP]; rfl
          refine ⟨by simp, ?_, fun _ => ⟨.fr (.tuple [.str x, .str y]), by simp [b7e0], rfl⟩, by simp⟩
          show _ = Rs.ok (decide (x ∈ [z1, z2]) || decide (y ∈ [z1, z2])) _
          cases hb : decide (x ∈ [z1, z2]) <;> rw [hb] at i1 <;> simp [-List.mem_cons, b7c0, i1, i2]) (by rw [szL]; simp only [List.length_nil]; omega)
      rw [List.nil_append, List.map_id] at key
      have hq : ∃ p ∈ E, q p = true := by
        obtain ⟨a, ha, hza⟩ := List.mem_iff_getElem.mp hz1
        have ga : zs[a]? = some z1 := by rw [List.getElem?_eq_getElem ha, hza]
        by_cases h0 : a = 0
        · subst h0
          exact ⟨_, e3 0 1 z1 zs[1] (by omega) ga (List.getElem?_eq_getElem (by omega)), by simp [q]⟩
        · exact ⟨_, e3 0 a zs[0] z1 (by omega) (List.getElem?_eq_getElem (by omega)) ga, by simp [q]⟩
      obtain ⟨p, hp1, hp2⟩ := hq
      refine ⟨E.filter q, .ow (.list (E.filter q)), d3, rfl, (fun w => ?_), Nat.le_trans (List.length_filter_le _ _) (by omega), (fun p hp => e1 p (List.mem_filter.mp hp).1), v2.mono (by omega), ?_⟩
      · have : p ∈ E.filter q := List.mem_filter.mpr ⟨hp1, hp2⟩
        rw [w] at this
        exact nomatch this
      · have hit : itD (.list E) = some E := rfl
        simp [b7, hgl, a4, hen, e4, hgn, hc, u3, v3, gList_of, hit, key]
    · have g1 : gSl (.list (zs.map .str)) (some 1) none = some (.ow (.list ((zs.map PyData.str).drop 1))) := by
        show some (B.ow (.list (FK.cutD (zs.map PyData.str) (some ((1 : Nat) : Int)) none))) = _
        rw [cutD_from]
      have g2 := gLz_ok (xs := zs.map PyData.str) (ys := (zs.map PyData.str).drop 1) (by rw [List.length_map]; omega)
      have g3 : (pairsAt (zs.map PyData.str) ((zs.map PyData.str).drop 1)).length = zs.length - 1 := by
        unfold pairsAt
        rw [List.length_zipWith, List.length_drop, List.length_map]; omega
      refine ⟨pairsAt (zs.map PyData.str) ((zs.map PyData.str).drop 1), .ow (.list (pairsAt (zs.map PyData.str) ((zs.map PyData.str).drop 1))), d1, rfl, (fun w => by rw [w] at g3; simp at g3; omega), by omega, fun p hp => ?_, a1.mono (by omega), by simp [-List.map_drop, -List.drop_one, b7, hgl, a4, hen, e4, hgn, hc, g1, g2]⟩
      unfold pairsAt at hp
      rw [List.mem_iff_getElem?] at hp
      obtain ⟨i, hp⟩ := hp
      rw [List.getElem?_zipWith] at hp
      cases q1 : (zs.map PyData.str)[i]? with
      | none => rw [q1] at hp; simp at hp
      | some x =>
        cases q2 : ((zs.map PyData.str).drop 1)[i]? with
        | none => rw [q1, q2] at hp; simp at hp
        | some y =>
          rw [q1, q2] at hp
          have hp : some (PyData.tuple [x, y]) = some p := hp
          cases hp
          obtain ⟨x', hx', rfl⟩ := List.mem_map.mp (List.mem_of_getElem? q1)
          obtain ⟨y', hy', rfl⟩ := List.mem_map.mp (List.mem_of_mem_drop (List.mem_of_getElem? q2))
          exact ⟨x', y', hN _ hx', hN _ hy', rfl⟩
def Lk (t : D) : Prop := ∃ (c m : Int) (x y : Str), 0 ≤ c ∧ c ≤ 1000000 ∧ 0 ≤ m ∧ m ≤ 1000000 ∧ Nm x ∧ Nm y ∧ t = .tuple [.int c, .int m, .str x, .str y]
theorem link_ok {k n : Nat} {d : D} {E : List D} (hD : Dr n d) (hn : n ≤ 500000) (hE : E ≠ []) (hl : E.length ≤ 1000) (hP : ∀ p ∈ E, Pr p) :
    ∃ t d', Lk t ∧ Dr (n + 5) d' ∧ sem pds (k + 3) 8 [.ow d, .fr (.list E)] = .ok (.fr t) [.ow d', .fr (.list E)] := by
  obtain ⟨p, d1, a1, a2, a3⟩ := pick_ok (k := k) (xs := E) hD (by omega) hE (by omega)
  obtain ⟨x, y, hx, hy, rfl⟩ := hP p a1
  obtain ⟨r, d2, c1, c2, c3, c4⟩ := next_ok (k := k + 1) (s := 1000001) a2 (by omega) (by decide) (by decide)
  obtain ⟨v, d3, e1, e2, e3⟩ := pick_ok (k := k) (xs := [.int 0, .int 1, .int 2, .int 3, .int 1000000, .int r]) c1 (by omega) (by simp) (by simp)
  have hv : ∃ i : Int, 0 ≤ i ∧ i ≤ 1000000 ∧ v = .int i := by
    simp only [List.mem_cons, List.not_mem_nil, or_false] at e1
    rcases e1 with h | h | h | h | h | h <;> subst h <;> exact ⟨_, by omega, by omega, rfl⟩
  obtain ⟨i, hi0, hi1, rfl⟩ := hv
  obtain ⟨r2, d4, f1, f2, f3, f4⟩ := next_ok (k := k + 1) (s := 1000001) e2 (by omega) (by decide) (by decide)
  obtain ⟨v, d5, g1, g2, g3⟩ := pick_ok (k := k) (xs := [.int 0, .int 1, .int 2, .int r2]) f1 (by omega) (by simp) (by simp)
  have hv : ∃ i : Int, 0 ≤ i ∧ i ≤ 1000000 ∧ v = .int i := by
    simp only [List.mem_cons, List.not_mem_nil, or_false] at g1
    rcases g1 with h | h | h | h <;> subst h <;> exact ⟨_, by omega, by omega, rfl⟩
  obtain ⟨m, hm0, hm1, rfl⟩ := hv
  refine ⟨_, d5, ⟨i, m, x, y, hi0, hi1, hm0, hm1, hx, hy, rfl⟩, g2.mono (by omega), ?_⟩
  rw [e8]
  simp [b8, a3, p6, c4, gList_of, e3, f4, g3, gTuple_of]
/-- things within bounds: n levels, texts and rows up to m -/
inductive Gd : Nat → Nat → D → Prop
  | non {n m : Nat} : Gd n m .none
  | bl {n m : Nat} (b : Bool) : Gd n m (.bool b)
  | int {n m : Nat} {i : Int} : i.natAbs ≤ 1000000000000000000000000000000 + m → Gd n m (.int i)
  | str {n m : Nat} {z : Str} : z.cps.size ≤ m → (∀ c ∈ z.cps.toList, c < 128) → Gd n m (.str z)
  | tup {n m : Nat} {ds : List D} : ds.length ≤ m → (∀ x ∈ ds, Gd n m x) → Gd (n + 1) m (.tuple ds)
  | lst {n m : Nat} {ds : List D} : Gd n m (.list ds)
  | dic {n m : Nat} {ps : List (D × D)} : Gd n m (.dict ps)
theorem Gd.mono {n m : Nat} {t : D} (h : Gd n m t) : ∀ {n' m' : Nat}, n ≤ n' → m ≤ m' → Gd n' m' t := by
  induction h with
  | non => exact fun _ _ => .non
  | bl b => exact fun _ _ => .bl b
  | int h => exact fun _ hm => .int (by omega)
  | str h1 h2 => exact fun _ hm => .str (by omega) h2
  | tup h1 h2 ih =>
    intro n' m' hn hm
    obtain ⟨k, rfl⟩ : ∃ k, n' = k + 1 := ⟨n' - 1, by omega⟩
    exact .tup (by omega) fun x hx => ih x hx (by omega) hm
  | lst => exact fun _ _ => .lst
  | dic => exact fun _ _ => .dic
/-- a thing picked of a row of things -/
theorem pickG {k c n m : Nat} {d : D} {xs : List D} (hD : Dr c d) (hn : c ≤ 1000000) (hx : xs ≠ []) (hl : xs.length < 10000000) (hG : ∀ x ∈ xs, Gd n m x) :
    ∃ t d', Gd n m t ∧ Dr (c + 1) d' ∧ sem pds (k + 2) 5 [.ow d, .fr (.list xs)] = .ok (.fr t) [.ow d', .fr (.list xs)] := by
  obtain ⟨x, d', h1, h2, h3⟩ := pick_ok (k := k) hD hn hx hl
  exact ⟨x, d', hG x h1, h2, h3⟩
theorem isiT {d : D} {b : Bool} {t : String} (h : kitB (tyD d) t = some b) : gIsi t d = some (.fr (.bool b)) := by unfold gIsi; rw [h]; rfl
theorem k1 : kitB "NoneType" "tuple" = some false ∧ kitB "NoneType" "str" = some false ∧ kitB "NoneType" "int" = some false ∧ kitB "NoneType" "bool" = some false := by decide +kernel
theorem k2 : kitB "bool" "tuple" = some false ∧ kitB "bool" "str" = some false ∧ kitB "bool" "int" = some true ∧ kitB "bool" "bool" = some true := by decide +kernel
theorem k3 : kitB "int" "tuple" = some false ∧ kitB "int" "str" = some false ∧ kitB "int" "int" = some true ∧ kitB "int" "bool" = some false := by decide +kernel
theorem k4 : kitB "str" "tuple" = some false ∧ kitB "str" "str" = some true ∧ kitB "str" "int" = some false ∧ kitB "str" "bool" = some false := by decide +kernel
theorem k5 : kitB "list" "tuple" = some false ∧ kitB "list" "str" = some false ∧ kitB "list" "int" = some false ∧ kitB "list" "bool" = some false := by decide +kernel
theorem k6 : kitB "tuple" "tuple" = some true ∧ kitB "tuple" "str" = some false ∧ kitB "tuple" "int" = some false ∧ kitB "tuple" "bool" = some false := by decide +kernel
theorem k7 : kitB "dict" "tuple" = some false ∧ kitB "dict" "str" = some false ∧ kitB "dict" "int" = some false ∧ kitB "dict" "bool" = some false := by decide +kernel
theorem other_bent {k c n m : Nat} {d t : D} (hD : Dr c d) (hc : c ≤ 500000) (ht : t = .none ∨ (∃ ds, t = .list ds) ∨ ∃ ps, t = .dict ps) :
    ∃ t' d', Gd (n + 1) (m + 41) t' ∧ Dr (c + 2) d' ∧ sem pds (k + 3) 9 [.ow d, .fr t] = .ok (.fr t') [.ow d', .fr t] := by
  obtain ⟨x, d1, a1, a2, a3⟩ := pickG (k := k) (n := n + 1) (m := m + 41) (xs := [.none, .int 5, .str "a", .tuple [], .list [], .dict [], .bool true, .list [.str "a"]]) hD (by omega) (by simp) (by simp) (fun x hx => by
    simp only [List.mem_cons, List.not_mem_nil, or_false] at hx
    rcases hx with h | h | h | h | h | h | h | h <;> subst h
    · exact .non
    · exact .int (by omega)
    · exact .str (by show 1 ≤ m + 41; omega) (by decide +kernel)
    · exact .tup (by simp) (fun x hx => nomatch hx)
    · exact .lst
    · exact .dic
    · exact .bl _
    · exact .lst)
  refine ⟨x, d1, a1, a2.mono (by omega), ?_⟩
  rw [e9]
  rcases ht with rfl | ⟨ds, rfl⟩ | ⟨ps, rfl⟩
  · simp [b9, isiT (d := .none) k1.1, isiT (d := .none) k1.2.1, isiT (d := .none) k1.2.2.1, gList_of, gTuple_of, a3]
  · simp [b9, isiT (d := .list ds) k5.1, isiT (d := .list ds) k5.2.1, isiT (d := .list ds) k5.2.2.1, gList_of, gTuple_of, a3]
  · simp [b9, isiT (d := .dict ps) k7.1, isiT (d := .dict ps) k7.2.1, isiT (d := .dict ps) k7.2.2.1, gList_of, gTuple_of, a3]
theorem num_len : ∀ (k n : Nat), n < 10 ^ (k + 1) → (TL.numL n).length ≤ k + 1
  | 0, n, h => by rw [TL.numL_lt (by simpa using h)]; simp
  | k + 1, n, h => by
    by_cases h10 : n < 10
    · rw [TL.numL_lt h10]; simp
    · rw [TL.numL_step (by omega), List.length_append]
      have := num_len k (n / 10) (by rw [Nat.pow_succ] at h; omega)
      simp only [List.length_cons, List.length_nil]; omega
theorem num_lt (n c : Nat) (h : c ∈ TL.numL n) : c < 128 := by
  by_cases hc : c < 48 ∨ 57 < c
  · exact absurd h (TL.numL_free hc)
  · omega
theorem int_text {i : Int} {k : Nat} (h : i.natAbs < 10 ^ (k + 1)) : (Str.ofString (toString i)).cps.size ≤ k + 2 ∧ ∀ c ∈ (Str.ofString (toString i)).cps.toList, c < 128 := by
  cases i with
  | ofNat n =>
    have e : (Str.ofString (toString (Int.ofNat n))).cps.toList = TL.numL n := TL.tl_num n
    refine ⟨?_, fun c hc => ?_⟩
    · rw [← Array.length_toList, e]
      have := num_len k n h
      omega
    · rw [e] at hc; exact num_lt n c hc
  | negSucc n =>
    have e : (Str.ofString (toString (Int.negSucc n))).cps.toList = 45 :: TL.numL (n + 1) := by
      have h1 : (Str.ofString ("-" ++ toString (n + 1))).cps.toList = ("-" ++ toString (n + 1)).toList.map Char.toNat := TL.tl_ofString _
      have h2 : (Str.ofString (toString (n + 1))).cps.toList = (toString (n + 1)).toList.map Char.toNat := TL.tl_ofString _
      have h3 : (Str.ofString (toString (n + 1))).cps.toList = TL.numL (n + 1) := TL.tl_num (n + 1)
      show (Str.ofString ("-" ++ toString (n + 1))).cps.toList = _
      rw [h1, String.toList_append, List.map_append, ← h2, h3]; rfl
    refine ⟨?_, fun c hc => ?_⟩
    · rw [← Array.length_toList, e, List.length_cons]
      have := num_len k (n + 1) h
      omega
    · rw [e] at hc
      rcases List.mem_cons.mp hc with w | w
      · omega
      · exact num_lt _ c w
theorem gAdd_list {xs ys : List D} (h : xs.length + ys.length ≤ 10000) : gAdd (.list xs) (.list ys) = some (.ow (.list (xs ++ ys))) := by
  show (if xs.length + ys.length ≤ sizeLine then some (B.ow (.list (xs ++ ys))) else none) = _
  exact if_pos (by rw [szL]; omega)
theorem gAdd_tup {xs ys : List D} (h : xs.length + ys.length ≤ 10000) : gAdd (.tuple xs) (.tuple ys) = some (.fr (.tuple (xs ++ ys))) := by
  show (if xs.length + ys.length ≤ sizeLine then some (B.fr (.tuple (xs ++ ys))) else none) = _
  exact if_pos (by rw [szL]; omega)
theorem gAdd_str {x y : Str} (h : x.length + y.length ≤ 10000) : gAdd (.str x) (.str y) = some (.fr (.str (x ++ y))) := by
  show (if x.length + y.length ≤ sizeLine then some (B.fr (.str (x ++ y))) else none) = _
  exact if_pos (by rw [szL]; omega)
theorem int_bent {k c n m : Nat} {d : D} {i : Int} (hD : Dr c d) (hc : c ≤ 500000) (hi : i.natAbs ≤ 1000000000000000000000000000000 + m) (hm : m ≤ 1000) (hm2 : 1 ≤ m) :
    ∃ t' d', Gd (n + 1) (m + 41) t' ∧ Dr (c + 2) d' ∧ sem pds (k + 3) 9 [.ow d, .fr (.int i)] = .ok (.fr t') [.ow d', .fr (.int i)] := by
  have hst : gStr [.int i] = some (.fr (.str (toString i))) := if_pos (by
    have h1 : i.natAbs < 2 ^ 200 := Nat.lt_of_le_of_lt hi (by
      have e : (2 : Nat) ^ 200 = 1606938044258990275541962092341162602522202993782792835301376 := by decide
      rw [e]; omega)
    have := log_le h1
    omega)
  obtain ⟨x, d1, a1, a2, a3⟩ := pickG (k := k) (n := n + 1) (m := m + 41) (xs := [.int (i + 1), .int (i - 1), .int (0 - i), .int 0, .int 1000000, .int (1000000 + 1), .bool true, .bool false, .str (toString i), .none, .tuple [.int i], .int 1000000000000000000000000000000, .str "", .int (-1)]) hD (by omega) (by simp) (by simp) (fun x hx => by
    simp only [List.mem_cons, List.not_mem_nil, or_false] at hx
    rcases hx with h | h | h | h | h | h | h | h | h | h | h | h | h | h <;> subst h
    · exact .int (by omega)
    · exact .int (by omega)
    · exact .int (by omega)
    · exact .int (by omega)
    · exact .int (by omega)
    · exact .int (by omega)
    · exact .bl _
    · exact .bl _
    · obtain ⟨t1, t2⟩ := int_text (i := i) (k := 38) (by
        have e : (10 : Nat) ^ (38 + 1) = 1000000000000000000000000000000000000000 := by decide
        rw [e]; omega)
      exact .str (by omega) t2
    · exact .non
    · exact .tup (by simp) (fun x hx => by
        have : x = .int i := by simpa using hx
        subst this; exact .int (by omega))
    · exact .int (by omega)
    · exact .str (by show 0 ≤ _; omega) (by decide +kernel)
    · exact .int (by omega))
  refine ⟨x, d1, a1, a2.mono (by omega), ?_⟩
  rw [e9]
  simp at a3
  simp [b9, isiT (d := .int i) k3.1, isiT (d := .int i) k3.2.1, isiT (d := .int i) k3.2.2.1, gList_of, gTuple_of, p6, p30, hst, gAdd_list, a3]
theorem bool_bent {k c n m : Nat} {d : D} {b : Bool} (hD : Dr c d) (hc : c ≤ 500000) :
    ∃ t' d', Gd (n + 1) (m + 41) t' ∧ Dr (c + 2) d' ∧ sem pds (k + 3) 9 [.ow d, .fr (.bool b)] = .ok (.fr t') [.ow d', .fr (.bool b)] := by
  obtain ⟨x, d1, a1, a2, a3⟩ := pickG (k := k) (n := n + 1) (m := m + 41) (xs := [.int ((if b = true then 1 else 0) + 1), .int ((if b = true then 1 else 0) - 1), .int (0 - (if b = true then 1 else 0)), .int 0, .int 1000000, .int (1000000 + 1), .bool true, .bool false, .str (if b then "True" else "False"), .none, .tuple [.bool b], .int 1000000000000000000000000000000, .str "", .int (-1)]) hD (by omega) (by simp) (by simp) (fun x hx => by
    simp only [List.mem_cons, List.not_mem_nil, or_false] at hx
    rcases hx with h | h | h | h | h | h | h | h | h | h | h | h | h | h <;> subst h
    · exact .int (by split <;> omega)
    · exact .int (by split <;> omega)
    · exact .int (by split <;> omega)
    · exact .int (by omega)
    · exact .int (by omega)
    · exact .int (by omega)
    · exact .bl _
    · exact .bl _
    · cases b
      · exact .str (by show 5 ≤ m + 41; omega) (by decide +kernel)
      · exact .str (by show 4 ≤ m + 41; omega) (by decide +kernel)
    · exact .non
    · exact .tup (by simp) (fun x hx => by
        have : x = .bool b := by simpa using hx
        subst this; exact .bl _)
    · exact .int (by omega)
    · exact .str (by show 0 ≤ _; omega) (by decide +kernel)
    · exact .int (by omega))
  refine ⟨x, d1, a1, a2.mono (by omega), ?_⟩
  have hst : gStr [.bool b] = some (.fr (.str (if b then "True" else "False"))) := rfl
  rw [e9]
  cases b
  · simp at a3 hst
    simp [b9, isiT (d := .bool false) k2.1, isiT (d := .bool false) k2.2.1, isiT (d := .bool false) k2.2.2.1, gList_of, gTuple_of, p6, p30, hst, gAdd_list, a3]
  · simp at a3 hst
    simp [b9, isiT (d := .bool true) k2.1, isiT (d := .bool true) k2.2.1, isiT (d := .bool true) k2.2.2.1, gList_of, gTuple_of, p6, p30, hst, gAdd_list, a3]
theorem cutD_mem {ds : List D} {lo hi : Option Int} {x : D} (h : x ∈ FK.cutD ds lo hi) : x ∈ ds := by
  unfold FK.cutD at h
  exact List.mem_of_mem_drop (List.mem_of_mem_take h)
theorem cutD_len {ds : List D} {lo hi : Option Int} : (FK.cutD ds lo hi).length ≤ ds.length := by
  unfold FK.cutD
  rw [List.length_take, List.length_drop]; omega
theorem gSlT {ds : List D} {lo hi : Option Int} : gSl (.tuple ds) lo hi = some (.fr (.tuple (FK.cutD ds lo hi))) := rfl
theorem gNe_empty {ds : List D} : gNe (.tuple ds) (.tuple []) = some (.fr (.bool (!ds.isEmpty))) := by
  unfold gNe
  split
  · have : PyData.eqv (.tuple ds) (.tuple []) = ds.isEmpty := by
      show PyData.eqvAll ds [] = _
      cases ds <;> rfl
    rw [this]
  · rfl
theorem tup_bent {k c n m : Nat} {d : D} {ds : List D} (hD : Dr c d) (hc : c ≤ 400000) (hm : m ≤ 900) (hl : ds.length ≤ m) (hG : ∀ x ∈ ds, Gd n m x)
    (sub : ∀ (x d : D), x ∈ ds → Dr (c + 2) d → ∃ t' d', Gd (n + 1) (3 * m + 41) t' ∧ Dr (c + 2 + (3 * n + 3)) d' ∧ sem pds (k + 2) 9 [.ow d, .fr x] = .ok (.fr t') [.ow d', .fr x]) :
    ∃ t' d', Gd (n + 2) (3 * m + 41) t' ∧ Dr (c + (3 * n + 6)) d' ∧ sem pds (k + 3) 9 [.ow d, .fr (.tuple ds)] = .ok (.fr t') [.ow d', .fr (.tuple ds)] := by
  have i1 := isiT (d := .tuple ds) k6.1
  have hlen : gLen [.tuple ds] = some (.fr (.int ds.length)) := rfl
  have big : ∀ x ∈ ds, Gd (n + 1) (3 * m + 41) x := fun x hx => (hG x hx).mono (by omega) (by omega)
  -- not by an element
  have flat : ∀ (d1 : D), Dr (c + 1) d1 → ∃ (v : Int) (d2 d3 t' : D), Gd (n + 2) (3 * m + 41) t' ∧ Dr (c + 3) d3 ∧ sem pds (k + 2) 4 [.ow d1, .fr (.int (ds.length + 1))] = .ok (.fr (.int v)) [.ow d2, .fr (.int (ds.length + 1))] ∧
      sem pds (k + 2) 5 [.ow d2, .fr (.list ([.tuple (FK.cutD ds none (some v) ++ FK.cutD ds (some (v + 1)) none), .tuple (FK.cutD ds none (some v) ++ FK.cutD ds (some v) (some (v + 1)) ++ FK.cutD ds (some v) none), .tuple ds.reverse, .list ds] ++ [.tuple [.tuple ds], .tuple (ds ++ [.int 0]), .none, .tuple []]))] = .ok (.fr t') [.ow d3, .fr (.list ([.tuple (FK.cutD ds none (some v) ++ FK.cutD ds (some (v + 1)) none), .tuple (FK.cutD ds none (some v) ++ FK.cutD ds (some v) (some (v + 1)) ++ FK.cutD ds (some v) none), .tuple ds.reverse, .list ds] ++ [.tuple [.tuple ds], .tuple (ds ++ [.int 0]), .none, .tuple []]))] := by
    intro d1 h1
    obtain ⟨v, d2, a1, a2, a3, a4⟩ := next_ok (k := k + 1) (s := (ds.length : Int) + 1) h1 (by omega) (by omega) (by omega)
    obtain ⟨x, d3, b1, b2, b3⟩ := pickG (k := k) (n := n + 2) (m := 3 * m + 41) (xs := [.tuple (FK.cutD ds none (some v) ++ FK.cutD ds (some (v + 1)) none), .tuple (FK.cutD ds none (some v) ++ FK.cutD ds (some v) (some (v + 1)) ++ FK.cutD ds (some v) none), .tuple ds.reverse, .list ds] ++ [.tuple [.tuple ds], .tuple (ds ++ [.int 0]), .none, .tuple []]) a1 (by omega) (by simp) (by simp) (fun x hx => by
      have l1 := fun lo hi => cutD_len (ds := ds) (lo := lo) (hi := hi)
      simp only [List.mem_append, List.mem_cons, List.not_mem_nil, or_false] at hx
      rcases hx with (h | h | h | h) | (h | h | h | h) <;> subst h
      · refine .tup ?_ fun x hx => ?_
        · have := l1 none (some v); have := l1 (some (v + 1)) none
          rw [List.length_append]; omega
        · rcases List.mem_append.mp hx with q | q <;> exact big x (cutD_mem q)
      · refine .tup ?_ fun x hx => ?_
        · have := l1 none (some v); have := l1 (some v) (some (v + 1)); have := l1 (some v) none
          rw [List.length_append, List.length_append]; omega
        · rcases List.mem_append.mp hx with q | q
          · rcases List.mem_append.mp q with q | q <;> exact big x (cutD_mem q)
          · exact big x (cutD_mem q)
      · exact .tup (by rw [List.length_reverse]; omega) fun x hx => big x (List.mem_reverse.mp hx)
      · exact .lst
      · refine .tup (by simp) fun x hx => ?_
        have : x = .tuple ds := by simpa using hx
        subst this
        exact .tup (by omega) fun x hx => (hG x hx).mono (Nat.le_refl _) (by omega)
      · refine .tup (by rw [List.length_append]; simp; omega) fun x hx => ?_
        rcases List.mem_append.mp hx with q | q
        · exact big x q
        · have : x = .int 0 := by simpa using q
          subst this; exact .int (by omega)
      · exact .non
      · exact .tup (by simp) (fun x hx => nomatch hx))
    exact ⟨v, d2, d3, x, b1, b2, a4, b3⟩
  have gr : gRev (.tuple ds) = some (.fr (.tuple ds.reverse)) := rfl
  have glo : gListOf [.tuple ds] = some (.ow (.list ds)) := rfl
  have ne := gNe_empty (ds := ds)
  rw [e9]
  by_cases hemp : ds = []
  · obtain ⟨v, d2, d3, t', f1, f2, f3, f4⟩ := flat d (hD.mono (by omega))
    refine ⟨t', d3, f1, f2.mono (by omega), ?_⟩
    have l1 := fun lo hi => cutD_len (ds := ds) (lo := lo) (hi := hi)
    have h0 : ds.isEmpty = true := by rw [hemp]; rfl
    rw [h0] at ne
    have g1 : gAdd (.tuple (FK.cutD ds none (some v))) (.tuple (FK.cutD ds (some (v + 1)) none)) = _ := gAdd_tup (by have := l1 none (some v); have := l1 (some (v + 1)) none; omega)
    have g2 : gAdd (.tuple (FK.cutD ds none (some v))) (.tuple (FK.cutD ds (some v) (some (v + 1)))) = _ := gAdd_tup (by have := l1 none (some v); have := l1 (some v) (some (v + 1)); omega)
    have g3 : gAdd (.tuple (FK.cutD ds none (some v) ++ FK.cutD ds (some v) (some (v + 1)))) (.tuple (FK.cutD ds (some v) none)) = _ := gAdd_tup (by have := l1 none (some v); have := l1 (some v) (some (v + 1)); have := l1 (some v) none; rw [List.length_append]; omega)
    have g4 : gAdd (.tuple ds) (.tuple [.int 0]) = _ := gAdd_tup (by simp; omega)
    simp only [List.cons_append, List.nil_append] at f4
    simp [-List.append_assoc, b9, i1, gTuple_of, gList_of, ne, hlen, f3, gSlT, g1, g2, g3, g4, gr, glo, gAdd_list, f4]
  · have h0 : ds.isEmpty = false := by cases ds with
      | nil => exact absurd rfl hemp
      | cons _ _ => rfl
    have hpos : 0 < ds.length := List.length_pos_iff.mpr hemp
    rw [h0] at ne
    obtain ⟨r, d1, a1, a2, a3, a4⟩ := next_ok (k := k + 1) (s := 4) hD (by omega) (by decide) (by decide)
    by_cases hr : 0 < r
    · obtain ⟨v, d2, b1, b2, b3, b4⟩ := next_ok (k := k + 1) (s := (ds.length : Int)) a1 (by omega) (by omega) (by omega)
      obtain ⟨x, c1, c2⟩ := atI_lt b2 b3
      have hix : gIx (.tuple ds) (.int v) = some (.fr x) := by
        show (atI ds v).map B.fr = _
        rw [c2]; rfl
      obtain ⟨t', d3, s1, s2, s3⟩ := sub x d2 c1 b1
      have l1 := fun lo hi => cutD_len (ds := ds) (lo := lo) (hi := hi)
      have g1 : gAdd (.tuple (FK.cutD ds none (some v))) (.tuple [t']) = _ := gAdd_tup (by have := l1 none (some v); simp; omega)
      have g2 : gAdd (.tuple (FK.cutD ds none (some v) ++ [t'])) (.tuple (FK.cutD ds (some (v + 1)) none)) = _ := gAdd_tup (by have := l1 none (some v); have := l1 (some (v + 1)) none; rw [List.length_append]; simp; omega)
      refine ⟨.tuple (FK.cutD ds none (some v) ++ [t'] ++ FK.cutD ds (some (v + 1)) none), d3, .tup ?_ fun y hy => ?_, s2.mono (by omega), ?_⟩
      · have := l1 none (some v); have := l1 (some (v + 1)) none
        rw [List.length_append, List.length_append]; simp only [List.length_cons, List.length_nil]; omega
      · rcases List.mem_append.mp hy with q | q
        · rcases List.mem_append.mp q with q | q
          · exact (big y (cutD_mem q)).mono (Nat.le_refl _) (Nat.le_refl _)
          · have : y = t' := by simpa using q
            subst this; exact s1
        · exact big y (cutD_mem q)
      · simp [b9, i1, gTuple_of, ne, a4, hr, hlen, b4, gSlT, hix, s3, g1, g2]
    · obtain ⟨v, d2, d3, t', f1, f2, f3, f4⟩ := flat d1 a1
      refine ⟨t', d3, f1, f2.mono (by omega), ?_⟩
      have l1 := fun lo hi => cutD_len (ds := ds) (lo := lo) (hi := hi)
      have g1 : gAdd (.tuple (FK.cutD ds none (some v))) (.tuple (FK.cutD ds (some (v + 1)) none)) = _ := gAdd_tup (by have := l1 none (some v); have := l1 (some (v + 1)) none; omega)
      have g2 : gAdd (.tuple (FK.cutD ds none (some v))) (.tuple (FK.cutD ds (some v) (some (v + 1)))) = _ := gAdd_tup (by have := l1 none (some v); have := l1 (some v) (some (v + 1)); omega)
      have g3 : gAdd (.tuple (FK.cutD ds none (some v) ++ FK.cutD ds (some v) (some (v + 1)))) (.tuple (FK.cutD ds (some v) none)) = _ := gAdd_tup (by have := l1 none (some v); have := l1 (some v) (some (v + 1)); have := l1 (some v) none; rw [List.length_append]; omega)
      have g4 : gAdd (.tuple ds) (.tuple [.int 0]) = _ := gAdd_tup (by simp; omega)
      simp only [List.cons_append, List.nil_append] at f4
      simp [-List.append_assoc, b9, i1, gTuple_of, gList_of, ne, a4, hr, hlen, f3, gSlT, g1, g2, g3, g4, gr, glo, gAdd_list, f4]
def As (m : Nat) (z : Str) : Prop := z.cps.size ≤ m ∧ ∀ c ∈ z.cps.toList, c < 128
theorem As.gd {n m m' : Nat} {z : Str} (h : As m z) (hm : m ≤ m') : Gd n m' (.str z) := .str (Nat.le_trans h.1 hm) h.2
theorem As.cut {m : Nat} {z : Str} {lo hi : Option Int} (h : As m z) : As m (cutS z lo hi) := by
  have e : (cutS z lo hi).cps.toList = (z.cps.toList.drop (HT.sIx z.length 0 lo)).take (HT.sIx z.length z.length hi - HT.sIx z.length 0 lo) := rfl
  refine ⟨?_, fun c hc => ?_⟩
  · have := h.1
    rw [← Array.length_toList] at this ⊢
    rw [e, List.length_take, List.length_drop]; omega
  · rw [e] at hc
    exact h.2 c (List.mem_of_mem_drop (List.mem_of_mem_take hc))
theorem cutk (z : Str) (k : Nat) : (cutS z none (some (k : Int))).cps.toList = z.cps.toList.take k := by
  unfold cutS
  rw [HT.sIx_none, HT.sIx_nat]
  show (z.cps.toList.drop 0).take (min k z.length - 0) = _
  have e : z.length = z.cps.toList.length := by rw [Array.length_toList]; rfl
  rw [Nat.sub_zero, e, List.drop_zero]
  rcases Nat.le_total k z.cps.toList.length with h | h
  · rw [Nat.min_eq_left h]
  · rw [Nat.min_eq_right h, List.take_length, List.take_of_length_le h]
theorem As.cutk {m : Nat} {z : Str} (k : Nat) (h : As m z) : As k (cutS z none (some (k : Int))) := by
  refine ⟨?_, (h.cut (lo := none) (hi := some (k : Int))).2⟩
  rw [← Array.length_toList, Lw.cutk, List.length_take]; omega
theorem As.app {m k : Nat} {x y : Str} (hx : As m x) (hy : As k y) : As (m + k) (x ++ y) := by
  have e : (x ++ y).cps.toList = x.cps.toList ++ y.cps.toList := TL.tl_append x y
  refine ⟨?_, fun c hc => ?_⟩
  · have h1 := hx.1; have h2 := hy.1
    rw [← Array.length_toList] at h1 h2 ⊢
    rw [e, List.length_append]; omega
  · rw [e] at hc
    exact (List.mem_append.mp hc).elim (hx.2 c) (hy.2 c)
theorem As.mul {m : Nat} {z : Str} (h : As m z) (hm : m ≤ 900) (n : Nat) (hn : 2 ≤ n ∧ n ≤ 7) : ∃ y, gMul (.str z) (.int (n : Int)) = some (.fr (.str y)) ∧ As 7000 y := by
  by_cases h0 : z.length = 0
  · refine ⟨z, ?_, ⟨by have := h.1; omega, h.2⟩⟩
    show (if 2 ≤ (n : Int) ∧ (n : Int) ≤ 1000 ∧ 0 < z.length ∧ z.length ≤ 1000 then _ else if 2 ≤ (n : Int) ∧ (n : Int) ≤ 1000 ∧ z.length = 0 then _ else _) = _
    rw [if_neg (by omega), if_pos (by omega)]
  · have hz : z.length ≤ 900 := Nat.le_trans h.1 hm
    refine ⟨strMul z (n : Int), ?_, ?_⟩
    · show (if 2 ≤ (n : Int) ∧ (n : Int) ≤ 1000 ∧ 0 < z.length ∧ z.length ≤ 1000 then _ else _) = _
      rw [if_pos (by omega)]
    · have e : (strMul z (n : Int)).cps.toList = (List.replicate n z.cps.toList).flatten := rfl
      refine ⟨?_, fun c hc => ?_⟩
      · rw [← Array.length_toList, e, List.length_flatten, List.map_replicate, List.sum_replicate_nat, Array.length_toList]
        have h1 : z.cps.size ≤ 900 := hz
        calc n * z.cps.size ≤ 7 * 900 := Nat.mul_le_mul hn.2 h1
          _ ≤ 7000 := by decide
      · rw [e] at hc
        obtain ⟨l, hl, hcl⟩ := List.mem_flatten.mp hc
        rw [List.eq_of_mem_replicate hl] at hcl
        exact h.2 c hcl
theorem As.up {m : Nat} {z : Str} (h : As m z) : As m (Txt.upper z) := by
  rw [PyProof.Rows.upper_ascii (x := z) h.2]
  refine ⟨by show (z.cps.map PyProof.Rows.up1).size ≤ m; rw [Array.size_map]; exact h.1, fun c hc => ?_⟩
  have hc : c ∈ (z.cps.map PyProof.Rows.up1).toList := hc
  rw [Array.toList_map] at hc
  obtain ⟨x, hx, rfl⟩ := List.mem_map.mp hc
  have := h.2 x hx
  unfold PyProof.Rows.up1
  split <;> omega
theorem gSlS {m : Nat} {z : Str} {lo hi : Option Int} (h : As m z) (hm : m ≤ 10000) : gSl (.str z) lo hi = some (.fr (.str (cutS z lo hi))) := if_pos (by rw [szL]; have := h.1; show z.cps.size ≤ _; omega)
theorem gAddS {m k : Nat} {x y : Str} (hx : As m x) (hy : As k y) (h : m + k ≤ 10000) : gAdd (.str x) (.str y) = some (.fr (.str (x ++ y))) := gAdd_str (by have h1 := hx.1; have h2 := hy.1; show x.cps.size + y.cps.size ≤ _; omega)
theorem str_bent {k c n m : Nat} {d : D} {z : Str} (hD : Dr c d) (hc : c ≤ 500000) (hm : m ≤ 900) (hz : As m z) :
    ∃ t' d', Gd (n + 1) (3 * m + 41) t' ∧ Dr (c + 3) d' ∧ sem pds (k + 3) 9 [.ow d, .fr (.str z)] = .ok (.fr t') [.ow d', .fr (.str z)] := by
  have hlen : gLen [.str z] = some (.fr (.int z.length)) := if_pos (by rw [szL]; have := hz.1; show z.cps.size ≤ _; omega)
  have hzl : z.length ≤ 900 := Nat.le_trans hz.1 hm
  obtain ⟨v, d1, a1, a2, a3, a4⟩ := next_ok (k := k + 1) (s := (z.length : Int) + 1) hD (by omega) (by omega) (by omega)
  have hL : (Str.ofString "abcxyzAZ09 _-{`~\x40[.\n").cps.toList.all (· < 128) = true ∧ (Str.ofString "abcxyzAZ09 _-{`~\x40[.\n").cps.size = 20 := by decide +kernel
  obtain ⟨g, d2, b1, b2, b3⟩ := pickS_ok (k := k) (z := "abcxyzAZ09 _-{`~\x40[.\n") a1 (by omega) (by rw [hL.2]; decide) (by rw [hL.2]; decide)
  have hg : As 1 ⟨#[g]⟩ := ⟨Nat.le_refl _, fun c hc => by
    have : c = g := by simpa using hc
    subst this; exact of_decide_eq_true (List.all_eq_true.mp hL.1 c b1)⟩
  obtain ⟨y7, u1, u2⟩ := hz.mul hm 7 (by omega)
  obtain ⟨y6, v1, v2⟩ := hz.mul hm 6 (by omega)
  have u1 : gMul (.str z) (.int 7) = some (.fr (.str y7)) := u1
  have v1 : gMul (.str z) (.int 6) = some (.fr (.str y6)) := v1
  have w7 : As 7 (cutS y7 none (some 7)) := u2.cutk 7
  have w6 : As 6 (cutS y6 none (some 6)) := v2.cutk 6
  have c1 := fun lo hi => hz.cut (lo := lo) (hi := hi)
  have up := hz.up
  have gu : gUpper (.str z) = some (.fr (.str (Txt.upper z))) := if_pos (by omega)
  obtain ⟨x, d3, f1, f2, f3⟩ := pickG (k := k) (n := n + 1) (m := 3 * m + 41) (xs := [.str (cutS z none (some v) ++ cutS z (some (v + 1)) none), .str (cutS z none (some v) ++ ⟨#[g]⟩ ++ cutS z (some v) none), .str (cutS z none (some v) ++ ⟨#[g]⟩ ++ cutS z (some (v + 1)) none), .str (Txt.upper z), .str (cutS y7 none (some 7)), .str (cutS y6 none (some 6)), .tuple [.str z], .none, .int 5, .str ""]) b2 (by omega) (by simp) (by simp) (fun x hx => by
    simp only [List.mem_cons, List.not_mem_nil, or_false] at hx
    rcases hx with h | h | h | h | h | h | h | h | h | h <;> subst h
    · exact ((c1 _ _).app (c1 _ _)).gd (by omega)
    · exact (((c1 _ _).app hg).app (c1 _ _)).gd (by omega)
    · exact (((c1 _ _).app hg).app (c1 _ _)).gd (by omega)
    · exact up.gd (by omega)
    · exact w7.gd (by omega)
    · exact w6.gd (by omega)
    · refine .tup (by simp) fun x hx => ?_
      have : x = .str z := by simpa using hx
      subst this; exact hz.gd (by omega)
    · exact .non
    · exact .int (by omega)
    · exact .str (by show 0 ≤ _; omega) (by decide +kernel))
  refine ⟨x, d3, f1, f2.mono (by omega), ?_⟩
  have s1 := fun lo hi => gSlS (z := z) (lo := lo) (hi := hi) hz (by omega)
  have s2 := gSlS (z := y7) (lo := none) (hi := some 7) u2 (by omega)
  have s3 := gSlS (z := y6) (lo := none) (hi := some 6) v2 (by omega)
  have g1 := gAddS (c1 none (some v)) (c1 (some (v + 1)) none) (by omega)
  have g2 := gAddS (c1 none (some v)) hg (by omega)
  have g3 := gAddS ((c1 none (some v)).app hg) (c1 (some v) none) (by omega)
  have g4 := gAddS ((c1 none (some v)).app hg) (c1 (some (v + 1)) none) (by omega)
  rw [e9]
  simp [b9, isiT (d := .str z) k4.1, isiT (d := .str z) k4.2.1, hlen, a4, b3, s1, s2, s3, g1, g2, g3, g4, gu, u1, v1, gTuple_of, gList_of, gAdd_list, f3]
theorem bent_ok {m : Nat} (hm : m ≤ 900) (hm1 : 1 ≤ m) : ∀ (n k c : Nat) (d t : D), Dr c d → c + 2 * n ≤ 300000 → Gd n m t →
    ∃ t' d', Gd (n + 1) (3 * m + 41) t' ∧ Dr (c + (3 * n + 3)) d' ∧ sem pds (k + n + 3) 9 [.ow d, .fr t] = .ok (.fr t') [.ow d', .fr t] := by
  intro n
  induction n with
  | zero =>
    intro k c d t hD hc hG
    cases hG with
    | non =>
      obtain ⟨t', d', h1, h2, h3⟩ := other_bent (k := k) (n := 0) (m := m) hD (by omega) (.inl rfl)
      exact ⟨t', d', h1.mono (Nat.le_refl _) (by omega), h2.mono (by omega), h3⟩
    | bl b =>
      obtain ⟨t', d', h1, h2, h3⟩ := bool_bent (k := k) (n := 0) (m := m) (b := b) hD (by omega)
      exact ⟨t', d', h1.mono (Nat.le_refl _) (by omega), h2.mono (by omega), h3⟩
    | int h =>
      obtain ⟨t', d', h1, h2, h3⟩ := int_bent (k := k) (n := 0) (m := m) hD (by omega) h (by omega) hm1
      exact ⟨t', d', h1.mono (Nat.le_refl _) (by omega), h2.mono (by omega), h3⟩
    | str h1 h2 =>
      obtain ⟨t', d', h1, h2, h3⟩ := str_bent (k := k) (n := 0) (m := m) hD (by omega) hm ⟨h1, h2⟩
      exact ⟨t', d', h1, h2, h3⟩
    | lst =>
      obtain ⟨t', d', h1, h2, h3⟩ := other_bent (k := k) (n := 0) (m := m) hD (by omega) (.inr (.inl ⟨_, rfl⟩))
      exact ⟨t', d', h1.mono (Nat.le_refl _) (by omega), h2.mono (by omega), h3⟩
    | dic =>
      obtain ⟨t', d', h1, h2, h3⟩ := other_bent (k := k) (n := 0) (m := m) hD (by omega) (.inr (.inr ⟨_, rfl⟩))
      exact ⟨t', d', h1.mono (Nat.le_refl _) (by omega), h2.mono (by omega), h3⟩
  | succ n ih =>
    intro k c d t hD hc hG
    rw [show k + (n + 1) + 3 = (k + n + 1) + 3 by omega]
    cases hG with
    | non =>
      obtain ⟨t', d', h1, h2, h3⟩ := other_bent (k := k + n + 1) (n := n + 1) (m := m) hD (by omega) (.inl rfl)
      exact ⟨t', d', h1.mono (Nat.le_refl _) (by omega), h2.mono (by omega), h3⟩
    | bl b =>
      obtain ⟨t', d', h1, h2, h3⟩ := bool_bent (k := k + n + 1) (n := n + 1) (m := m) (b := b) hD (by omega)
      exact ⟨t', d', h1.mono (Nat.le_refl _) (by omega), h2.mono (by omega), h3⟩
    | int h =>
      obtain ⟨t', d', h1, h2, h3⟩ := int_bent (k := k + n + 1) (n := n + 1) (m := m) hD (by omega) h (by omega) hm1
      exact ⟨t', d', h1.mono (Nat.le_refl _) (by omega), h2.mono (by omega), h3⟩
    | str h1 h2 =>
      obtain ⟨t', d', h1, h2, h3⟩ := str_bent (k := k + n + 1) (n := n + 1) (m := m) hD (by omega) hm ⟨h1, h2⟩
      exact ⟨t', d', h1, h2.mono (by omega), h3⟩
    | lst =>
      obtain ⟨t', d', h1, h2, h3⟩ := other_bent (k := k + n + 1) (n := n + 1) (m := m) hD (by omega) (.inr (.inl ⟨_, rfl⟩))
      exact ⟨t', d', h1.mono (Nat.le_refl _) (by omega), h2.mono (by omega), h3⟩
    | dic =>
      obtain ⟨t', d', h1, h2, h3⟩ := other_bent (k := k + n + 1) (n := n + 1) (m := m) hD (by omega) (.inr (.inr ⟨_, rfl⟩))
      exact ⟨t', d', h1.mono (Nat.le_refl _) (by omega), h2.mono (by omega), h3⟩
    | tup h1 h2 =>
      obtain ⟨t', d', q1, q2, q3⟩ := tup_bent (k := k + n + 1) (n := n) (m := m) hD (by omega) hm h1 h2 fun x d hx hd => by
        have := ih k (c + 2) d x hd (by omega) (h2 x hx)
        rw [show k + n + 1 + 2 = k + n + 3 by omega]
        exact this
      exact ⟨t', d', q1, q2.mono (by omega), q3⟩
/-! ### what is a place, a link -/
def placeP : D → Bool
  | .str x => decide (0 < x.cps.size ∧ x.cps.size ≤ 6) && x.cps.toList.all fun c => decide (97 ≤ c ∧ c ≤ 122)
  | _ => false
def numP : D → Bool
  | .int i => decide (0 ≤ i ∧ i ≤ 1000000)
  | _ => false
def ltP : D → D → Bool
  | .str x, .str y => decide (x.cps.toList < y.cps.toList)
  | _, _ => false
def linkP : D → Bool
  | .tuple [a, b, c, e] => numP a && numP b && placeP c && placeP e && ltP c e
  | _ => false
theorem number_ok {k : Nat} {t : D} (h : ∀ i, t = .int i → True) : sem pds (k + 1) 0 [.fr t, .fr (.int 1000000)] = .ok (.fr (.bool (numP t))) [.fr t, .fr (.int 1000000)] := by
  rw [e0]
  cases t with
  | none => simp [b0, isiT (d := .none) k1.2.2.1, numP]
  | bool b => simp [b0, isiT (d := .bool b) k2.2.2.1, isiT (d := .bool b) k2.2.2.2, numP]
  | int i =>
    by_cases h0 : 0 ≤ i
    · simp [b0, isiT (d := .int i) k3.2.2.1, isiT (d := .int i) k3.2.2.2, numP, h0]
    · simp [b0, isiT (d := .int i) k3.2.2.1, isiT (d := .int i) k3.2.2.2, numP, h0]
  | str z => simp [b0, isiT (d := .str z) k4.2.2.1, numP]
  | list ds => simp [b0, isiT (d := .list ds) k5.2.2.1, numP]
  | tuple ds => simp [b0, isiT (d := .tuple ds) k6.2.2.1, numP]
  | dict ps => simp [b0, isiT (d := .dict ps) k7.2.2.1, numP]
theorem sing_lt {a b : Nat} : ([a] < [b]) = (a < b) := by
  rw [List.cons_lt_cons_iff]; simp
def vPl : D → D
  | .str s => .bool (decide (97 ≤ s.cps.getD 0 0 ∧ s.cps.getD 0 0 ≤ 122))
  | _ => .none
theorem sign_ok {c : Nat} (h : c < 128) : PyData.strOk ⟨#[c]⟩ = true := strOk_of fun x hx => by
  have : x = c := by simpa using hx
  subst this; exact h
theorem le_a {c : Nat} (h : c < 128) : gLe (.str (Str.ofString "a")) (.str ⟨#[c]⟩) = some (.fr (.bool (decide (97 ≤ c)))) := by
  have e : (Str.ofString "a").cps.toList = [97] := by decide +kernel
  rw [gLe_str (by decide +kernel) (sign_ok h), e]
  show some (B.fr (.bool (!decide ([c] < [97])))) = _
  rw [show decide ([c] < [97]) = decide (c < 97) by simp [sing_lt], show (!decide (c < 97)) = decide (97 ≤ c) by simp [← decide_not, Nat.not_lt]]
theorem le_z {c : Nat} (h : c < 128) : gLe (.str ⟨#[c]⟩) (.str (Str.ofString "z")) = some (.fr (.bool (decide (c ≤ 122)))) := by
  have e : (Str.ofString "z").cps.toList = [122] := by decide +kernel
  rw [gLe_str (sign_ok h) (by decide +kernel), e]
  show some (B.fr (.bool (!decide ([122] < [c])))) = _
  rw [show decide ([122] < [c]) = decide (122 < c) by simp [sing_lt], show (!decide (122 < c)) = decide (c ≤ 122) by simp [← decide_not, Nat.not_lt]]
theorem boolsOf_map : ∀ (l : List Bool), boolsOf (l.map .bool) = some l
  | [] => rfl
  | b :: l => by
    show (boolsOf (l.map .bool)).map (b :: ·) = _
    rw [boolsOf_map l]; rfl
theorem place_ok {k : Nat} {t : D} (ht : ∀ z, t = .str z → As 8000 z) : sem pds (k + 1) 1 [.fr t] = .ok (.fr (.bool (placeP t))) [.fr t] := by
  rw [e1]
  cases t with
  | none => simp [b1, isiT (d := .none) k1.2.1, placeP]
  | bool b => simp [b1, isiT (d := .bool b) k2.2.1, placeP]
  | int i => simp [b1, isiT (d := .int i) k3.2.1, placeP]
  | list ds => simp [b1, isiT (d := .list ds) k5.2.1, placeP]
  | tuple ds => simp [b1, isiT (d := .tuple ds) k6.2.1, placeP]
  | dict ps => simp [b1, isiT (d := .dict ps) k7.2.1, placeP]
  | str z =>
    have hz := ht z rfl
    have hlen : gLen [.str z] = some (.fr (.int (z.cps.size : Nat))) := if_pos (by rw [szL]; have := hz.1; show z.cps.size ≤ _; omega)
    by_cases h6 : 0 < z.cps.size ∧ z.cps.size ≤ 6
    · have c1 : 0 < z.cps.size := h6.1
      have c2 : ((z.cps.size : Nat) : Int) ≤ 6 := by omega
      have key := lcR_pure (vs := [1]) (g := gNm 1) (ct := sYes) (fe := b1e0 (sem pds k)) (fun d => [.fr (.str z), .fr d]) (fun _ => true) vPl (ds := z.cps.toList.map fun c => .str ⟨#[c]⟩) (acc := []) (ρ := [.fr (.str z), .no]) (fun d hd => by
          obtain ⟨c, hc, rfl⟩ := List.mem_map.mp hd
          have h := hz.2 c hc
          refine ⟨by simp, rfl, fun _ => ⟨.fr (.bool (decide (97 ≤ c ∧ c ≤ 122))), ?_, rfl⟩, rfl⟩
          by_cases h9 : 97 ≤ c
          · by_cases h8 : c ≤ 122 <;> simp [b1e0, le_a h, le_z h, h9, h8]
          · simp [b1e0, le_a h, h9]) (by rw [szL, List.length_map, Array.length_toList]; show 0 + z.cps.size ≤ 16777216; omega)
      rw [List.filter_eq_self.mpr (fun _ _ => rfl), List.nil_append, List.map_map] at key
      have hm : (z.cps.toList.map (vPl ∘ fun c => PyData.str ⟨#[c]⟩)) = (z.cps.toList.map fun c => decide (97 ≤ c ∧ c ≤ 122)).map PyData.bool := by
        rw [List.map_map]; rfl
      rw [hm] at key
      have ga : gAll [.list ((z.cps.toList.map fun c => decide (97 ≤ c ∧ c ≤ 122)).map PyData.bool)] = some (.fr (.bool (z.cps.toList.all fun c => decide (97 ≤ c ∧ c ≤ 122)))) := by
        show (boolsOf _).map _ = _
        rw [boolsOf_map]
        show some (B.fr (.bool ((z.cps.toList.map fun c => decide (97 ≤ c ∧ c ≤ 122)).all id))) = _
        rw [List.all_map]; rfl
      have hit : itD (.str z) = some (z.cps.toList.map fun c => .str ⟨#[c]⟩) := rfl
      have hp : placeP (.str z) = z.cps.toList.all fun c => decide (97 ≤ c ∧ c ≤ 122) := by
        show (decide (0 < z.cps.size ∧ z.cps.size ≤ 6) && _) = _
        rw [decide_eq_true h6, Bool.true_and]
      rw [hp]
      generalize (z.cps.toList.map fun c => decide (97 ≤ c ∧ c ≤ 122)).map PyData.bool = bl at *
      generalize (z.cps.toList.all fun c => decide (97 ≤ c ∧ c ≤ 122)) = br at *
      simp [b1, isiT (d := .str z) k4.2.1, hlen, c1, c2, hit, key, ga]
    · have hp : placeP (.str z) = false := by
        show (decide (0 < z.cps.size ∧ z.cps.size ≤ 6) && _) = _
        rw [decide_eq_false h6, Bool.false_and]
      rw [hp]
      by_cases c1 : 0 < z.cps.size
      · have c2 : ¬ ((z.cps.size : Nat) : Int) ≤ 6 := by omega
        simp [b1, isiT (d := .str z) k4.2.1, hlen, c1, c2]
      · simp [b1, isiT (d := .str z) k4.2.1, hlen, c1]
theorem alph : (Str.ofString "abcdefghijklmnopqrstuvwxyz").cps.toList = List.range' 97 26 := by decide +kernel
theorem in_alph {c : Nat} : gNotIn (.str ⟨#[c]⟩) (.str (Str.ofString "abcdefghijklmnopqrstuvwxyz")) = some (.fr (.bool (!decide (97 ≤ c ∧ c ≤ 122)))) := by
  show some (B.fr (.bool (!decide (c ∈ (Str.ofString "abcdefghijklmnopqrstuvwxyz").cps.toList)))) = _
  rw [alph]
  have : (c ∈ List.range' 97 26) ↔ (97 ≤ c ∧ c ≤ 122) := by
    rw [List.mem_range'_1]; omega
  rw [decide_eq_decide.mpr this]
theorem in_six {n : Nat} : gNotIn (.int (n : Int)) (.tuple [.int 1, .int 2, .int 3, .int 4, .int 5, .int 6]) = some (.fr (.bool (!decide (0 < n ∧ n ≤ 6)))) := by
  have h : inD (.int (n : Int)) (.tuple [.int 1, .int 2, .int 3, .int 4, .int 5, .int 6]) = some (decide (0 < n ∧ n ≤ 6)) := by
    show (if okEq (.int (n : Int)) = true ∧ okEq (.tuple [.int 1, .int 2, .int 3, .int 4, .int 5, .int 6]) = true then some ([PyData.int 1, .int 2, .int 3, .int 4, .int 5, .int 6].any fun z => PyData.eqv z (.int (n : Int))) else none) = _
    rw [if_pos ⟨rfl, by decide +kernel⟩]
    congr 1
    have e : ∀ i : Int, PyData.eqv (.int i) (.int (n : Int)) = decide (i = (n : Int)) := fun i => by
      show (i == (n : Int)) = _
      simp [BEq.beq]
    simp only [List.any_cons, List.any_nil, e]
    rw [Bool.eq_iff_iff]
    simp only [Bool.or_eq_true, decide_eq_true_eq, Bool.false_eq_true, or_false]
    omega
  unfold gNotIn
  rw [h]; rfl
theorem gEq_nil {L : List D} (h : ∀ d ∈ L, ∃ z, PyData.strOk z = true ∧ d = .str z) : gEq (.list L) (.list []) = some (.fr (.bool L.isEmpty)) := by
  obtain ⟨zs, rfl, hz⟩ := strs_of_mem h
  unfold gEq
  rw [if_pos ⟨okEq_strs hz, rfl⟩]
  cases zs <;> rfl
theorem place2_ok {k : Nat} {t : D} (ht : ∀ z, t = .str z → As 8000 z) : sem pds (k + 1) 10 [.fr t] = .ok (.fr (.bool (placeP t))) [.fr t] := by
  rw [e10]
  cases t with
  | none => simp [b10, isiT (d := .none) k1.2.1, placeP]
  | bool b => simp [b10, isiT (d := .bool b) k2.2.1, placeP]
  | int i => simp [b10, isiT (d := .int i) k3.2.1, placeP]
  | list ds => simp [b10, isiT (d := .list ds) k5.2.1, placeP]
  | tuple ds => simp [b10, isiT (d := .tuple ds) k6.2.1, placeP]
  | dict ps => simp [b10, isiT (d := .dict ps) k7.2.1, placeP]
  | str z =>
    have hz := ht z rfl
    have hlen : gLen [.str z] = some (.fr (.int (z.cps.size : Nat))) := if_pos (by rw [szL]; have := hz.1; show z.cps.size ≤ _; omega)
    by_cases h6 : 0 < z.cps.size ∧ z.cps.size ≤ 6
    · have g6 := in_six (n := z.cps.size)
      rw [decide_eq_true h6] at g6
      let p : D → Bool := fun d => match d with
        | .str s => !decide (97 ≤ s.cps.getD 0 0 ∧ s.cps.getD 0 0 ≤ 122)
        | _ => false
      have key := lcR_pure (vs := [1]) (g := gNm 1) (ct := b10c0 (sem pds k)) (fe := b10e0 (sem pds k)) (fun d => [.fr (.str z), .fr d]) p id (ds := z.cps.toList.map fun c => .str ⟨#[c]⟩) (acc := []) (ρ := [.fr (.str z), .no]) (fun d hd => by
          obtain ⟨c, hc, rfl⟩ := List.mem_map.mp hd
          refine ⟨by simp, ?_, fun _ => ⟨.fr (.str ⟨#[c]⟩), by simp [b10e0], rfl⟩, rfl⟩
          show _ = Rs.ok (!decide (97 ≤ c ∧ c ≤ 122)) _
          have := in_alph (c := c)
          generalize (!decide (97 ≤ c ∧ c ≤ 122)) = q at *
          simp [b10c0, this]) (by rw [szL, List.length_map, Array.length_toList]; show 0 + z.cps.size ≤ 16777216; omega)
      rw [List.nil_append, List.map_id] at key
      have ge := gEq_nil (L := (z.cps.toList.map fun c => PyData.str ⟨#[c]⟩).filter p) (fun d hd => by
        obtain ⟨c, hc, rfl⟩ := List.mem_map.mp (List.mem_filter.mp hd).1
        exact ⟨_, sign_ok (hz.2 c hc), rfl⟩)
      have hp : placeP (.str z) = ((z.cps.toList.map fun c => PyData.str ⟨#[c]⟩).filter p).isEmpty := by
        show (decide (0 < z.cps.size ∧ z.cps.size ≤ 6) && _) = _
        rw [decide_eq_true h6, Bool.true_and, Bool.eq_iff_iff, List.isEmpty_iff, List.filter_eq_nil_iff, List.all_eq_true]
        constructor
        · intro h d hd
          obtain ⟨c, hc, rfl⟩ := List.mem_map.mp hd
          have := of_decide_eq_true (h c hc)
          show ¬ (!decide (97 ≤ c ∧ c ≤ 122)) = true
          simp [this]
        · intro h c hc
          have : ¬ (!decide (97 ≤ c ∧ c ≤ 122)) = true := h (.str ⟨#[c]⟩) (List.mem_map_of_mem hc)
          simpa using this
      have hit : itD (.str z) = some (z.cps.toList.map fun c => .str ⟨#[c]⟩) := rfl
      rw [hp]
      generalize (z.cps.toList.map fun c => PyData.str ⟨#[c]⟩).filter p = L at *
      generalize z.cps.toList.map (fun c => PyData.str ⟨#[c]⟩) = L2 at *
      simp [b10, isiT (d := .str z) k4.2.1, hlen, g6, gTuple_of, gList_of, hit, key, ge]
    · have g6 := in_six (n := z.cps.size)
      rw [decide_eq_false h6] at g6
      have hp : placeP (.str z) = false := by
        show (decide (0 < z.cps.size ∧ z.cps.size ≤ 6) && _) = _
        rw [decide_eq_false h6, Bool.false_and]
      rw [hp]
      simp [b10, isiT (d := .str z) k4.2.1, hlen, g6, gTuple_of]
theorem Gd.str_as {n m : Nat} {z : Str} (h : Gd n m (.str z)) (hm : m ≤ 8000) : As 8000 z := by
  cases h with
  | str h1 h2 => exact ⟨by omega, h2⟩
theorem Gd.elt {n m : Nat} {ds : List D} {x : D} (h : Gd n m (.tuple ds)) (hm : m ≤ 8000) (hx : x ∈ ds) (z : Str) (hz : x = .str z) : As 8000 z := by
  cases h with
  | tup h1 h2 => subst hz; exact (h2 _ hx).str_as hm
theorem placeP_str {c : D} (h : placeP c = true) : ∃ z, c = .str z := by
  cases c with
  | str z => exact ⟨z, rfl⟩
  | _ => cases h
theorem four_of {ds : List D} (h : ds.length = 4) : ∃ a b c e, ds = [a, b, c, e] := by
  match ds, h with
  | [a, b, c, e], _ => exact ⟨a, b, c, e, rfl⟩
theorem linkP_no {ds : List D} (h : ds.length ≠ 4) : linkP (.tuple ds) = false := by
  match ds with
  | [] => rfl
  | [a] => rfl
  | [a, b] => rfl
  | [a, b, c] => rfl
  | [a, b, c, e] => exact absurd rfl h
  | a :: b :: c :: e :: f :: r => rfl
theorem isl_ok {k n m : Nat} {t : D} (hG : Gd n m t) (hm : m ≤ 8000) : sem pds (k + 2) 2 [.fr t] = .ok (.fr (.bool (linkP t))) [.fr t] := by
  rw [e2]
  cases t with
  | none => simp [b2, isiT (d := .none) k1.1, linkP]
  | bool b => simp [b2, isiT (d := .bool b) k2.1, linkP]
  | int i => simp [b2, isiT (d := .int i) k3.1, linkP]
  | list ds => simp [b2, isiT (d := .list ds) k5.1, linkP]
  | str z => simp [b2, isiT (d := .str z) k4.1, linkP]
  | dict ps => simp [b2, isiT (d := .dict ps) k7.1, linkP]
  | tuple ds =>
    have hlen : gLen [.tuple ds] = some (.fr (.int ds.length)) := rfl
    by_cases h4 : ds.length = 4
    · obtain ⟨a, b, c, e, rfl⟩ := four_of h4
      have n1 := number_ok (k := k) (t := a) fun _ _ => True.intro
      have n2 := number_ok (k := k) (t := b) fun _ _ => True.intro
      have q1 := place_ok (k := k) (t := c) fun z hz => hG.elt hm (by simp) z hz
      have q2 := place_ok (k := k) (t := e) fun z hz => hG.elt hm (by simp) z hz
      have hl : linkP (.tuple [a, b, c, e]) = (numP a && numP b && placeP c && placeP e && ltP c e) := rfl
      rw [hl]
      have i1 := isiT (d := .tuple [a, b, c, e]) k6.1
      cases h1 : numP a <;> rw [h1] at n1
      · simp [b2, i1, hlen, n1]
      · cases h2 : numP b <;> rw [h2] at n2
        · simp [b2, i1, hlen, n1, n2]
        · cases h3 : placeP c <;> rw [h3] at q1
          · simp [b2, i1, hlen, n1, n2, q1]
          · cases h5 : placeP e <;> rw [h5] at q2
            · simp [b2, i1, hlen, n1, n2, q1, q2]
            · obtain ⟨x, rfl⟩ := placeP_str h3
              obtain ⟨y, rfl⟩ := placeP_str h5
              have gl := gLt_str (strOk_of (hG.elt hm (x := .str x) (by simp) x rfl).2) (strOk_of (hG.elt hm (x := .str y) (by simp) y rfl).2)
              have hlt : ltP (.str x) (.str y) = decide (x.cps.toList < y.cps.toList) := rfl
              rw [hlt]
              generalize decide (x.cps.toList < y.cps.toList) = r at *
              simp [b2, i1, hlen, n1, n2, q1, q2, gl]
    · have hi : ¬ ((ds.length : Int) = 4) := by omega
      rw [linkP_no h4]
      simp [b2, isiT (d := .tuple ds) k6.1, hlen, hi]
theorem four_turn {tb : Nat → SE} {t x : D} : b11f0 tb [.fr t, .fr x] = if numP x = true then .nx [.fr t, .fr x] else .rt (.fr (.bool false)) [.fr t, .fr x] := by
  cases x with
  | none => simp [b11f0, isiT (d := .none) k1.2.2.1, numP]
  | bool b => simp [b11f0, isiT (d := .bool b) k2.2.2.1, isiT (d := .bool b) k2.2.2.2, numP]
  | int i =>
    have hn : numP (.int i) = decide (0 ≤ i ∧ i ≤ 1000000) := rfl
    by_cases h0 : i < 0
    · have : ¬ (0 ≤ i ∧ i ≤ 1000000) := by omega
      simp [b11f0, isiT (d := .int i) k3.2.2.1, isiT (d := .int i) k3.2.2.2, hn, h0, this]
    · by_cases h1 : 1000000 < i
      · have : ¬ (0 ≤ i ∧ i ≤ 1000000) := by omega
        simp [b11f0, isiT (d := .int i) k3.2.2.1, isiT (d := .int i) k3.2.2.2, hn, h0, h1, this, p6]
      · have : 0 ≤ i ∧ i ≤ 1000000 := by omega
        simp [b11f0, isiT (d := .int i) k3.2.2.1, isiT (d := .int i) k3.2.2.2, hn, h0, h1, this, p6]
  | str z => simp [b11f0, isiT (d := .str z) k4.2.2.1, numP]
  | list ds => simp [b11f0, isiT (d := .list ds) k5.2.2.1, numP]
  | tuple ds => simp [b11f0, isiT (d := .tuple ds) k6.2.2.1, numP]
  | dict ps => simp [b11f0, isiT (d := .dict ps) k7.2.2.1, numP]
theorem four_ok {k n m : Nat} {t : D} (hG : Gd n m t) (hm : m ≤ 8000) : sem pds (k + 2) 11 [.fr t] = .ok (.fr (.bool (linkP t))) [.fr t] := by
  rw [e11]
  cases t with
  | none => simp [b11, isiT (d := .none) k1.1, linkP]
  | bool b => simp [b11, isiT (d := .bool b) k2.1, linkP]
  | int i => simp [b11, isiT (d := .int i) k3.1, linkP]
  | list ds => simp [b11, isiT (d := .list ds) k5.1, linkP]
  | str z => simp [b11, isiT (d := .str z) k4.1, linkP]
  | dict ps => simp [b11, isiT (d := .dict ps) k7.1, linkP]
  | tuple ds =>
    have hlen : gLen [.tuple ds] = some (.fr (.int ds.length)) := rfl
    by_cases h4 : ds.length = 4
    · obtain ⟨a, b, c, e, rfl⟩ := four_of h4
      have q1 := place2_ok (k := k) (t := c) fun z hz => hG.elt hm (by simp) z hz
      have q2 := place2_ok (k := k) (t := e) fun z hz => hG.elt hm (by simp) z hz
      have hl : linkP (.tuple [a, b, c, e]) = (numP a && numP b && placeP c && placeP e && ltP c e) := rfl
      rw [hl]
      have i1 := isiT (d := .tuple [a, b, c, e]) k6.1
      have hs : gSl (.tuple [a, b, c, e]) none (some 2) = some (.fr (.tuple [a, b])) := rfl
      have hit : itD (.tuple [a, b]) = some [a, b] := rfl
      have hf : forR (gNm 1) (b11f0 (sem pds (k + 1))) [a, b] [.fr (.tuple [a, b, c, e]), .no] = if numP a = true then (if numP b = true then .nx [.fr (.tuple [a, b, c, e]), .fr b] else .rt (.fr (.bool false)) [.fr (.tuple [a, b, c, e]), .fr b]) else .rt (.fr (.bool false)) [.fr (.tuple [a, b, c, e]), .fr a] := by
        cases h1 : numP a <;> cases h2 : numP b <;> simp [forR, four_turn, h1, h2]
      cases h1 : numP a
      · simp [h1] at hf
        simp [b11, i1, hlen, hs, hit, hf]
      · cases h2 : numP b
        · simp [h1, h2] at hf
          simp [b11, i1, hlen, hs, hit, hf]
        · simp [h1, h2] at hf
          cases h3 : placeP c <;> rw [h3] at q1
          · simp [b11, i1, hlen, hs, hit, hf, q1]
          · cases h5 : placeP e <;> rw [h5] at q2
            · simp [b11, i1, hlen, hs, hit, hf, q1, q2]
            · obtain ⟨x, rfl⟩ := placeP_str h3
              obtain ⟨y, rfl⟩ := placeP_str h5
              have gl := gLt_str (strOk_of (hG.elt hm (x := .str x) (by simp) x rfl).2) (strOk_of (hG.elt hm (x := .str y) (by simp) y rfl).2)
              have hlt : ltP (.str x) (.str y) = decide (x.cps.toList < y.cps.toList) := rfl
              rw [hlt]
              generalize decide (x.cps.toList < y.cps.toList) = r at *
              simp [b11, i1, hlen, hs, hit, hf, q1, q2, gl]
    · have hi : ¬ ((ds.length : Int) = 4) := by omega
      rw [linkP_no h4]
      simp [b11, isiT (d := .tuple ds) k6.1, hlen, hi]
theorem told_turn {tb : Nat → SE} {t : D} {b : Bool} : b12f0 tb [.fr t, .fr (.bool b), .fr (.bool b)] = .nx [.fr t, .fr (.bool b), .fr (.bool b)] := by
  simp [b12f0, isiT (d := .bool b) k2.2.2.2]
theorem told_ok {k n m : Nat} {t : D} (hG : Gd n m t) (hm : m ≤ 8000) : sem pds (k + 3) 12 [.fr t] = .ok (.fr (.bool true)) [.fr t] := by
  have p1 := place_ok (k := k + 1) (t := t) fun z hz => by subst hz; exact hG.str_as hm
  have p2 := place2_ok (k := k + 1) (t := t) fun z hz => by subst hz; exact hG.str_as hm
  have p3 := isl_ok (k := k) hG hm
  have p4 := four_ok (k := k) hG hm
  generalize placeP t = a at *
  generalize linkP t = b at *
  have hit : itD (.list [.tuple [.bool a, .bool a], .tuple [.bool b, .bool b]]) = some [.tuple [.bool a, .bool a], .tuple [.bool b, .bool b]] := rfl
  have hf : forR (gTp 2 (gsCons (gNm 1) (gsCons (gNm 2) gsNil))) (b12f0 (sem pds (k + 2))) [.tuple [.bool a, .bool a], .tuple [.bool b, .bool b]] [.fr t, .no, .no] = .nx [.fr t, .fr (.bool b), .fr (.bool b)] := by
    simp [forR, told_turn]
  rw [e12]
  simp [b12, p1, p2, p3, p4, gTuple_of, gList_of, hit, hf]
def mm : Nat → Nat
  | 0 => 7
  | i + 1 => 3 * mm i + 41
theorem Lk.gd {t : D} (h : Lk t) : Gd 1 7 t := by
  obtain ⟨c, m, x, y, h1, h2, h3, h4, h5, h6, rfl⟩ := h
  refine .tup (by simp) fun v hv => ?_
  simp only [List.mem_cons, List.not_mem_nil, or_false] at hv
  rcases hv with h | h | h | h <;> subst h
  · exact .int (by omega)
  · exact .int (by omega)
  · exact .str h5.1 h5.2
  · exact .str h6.1 h6.2
theorem bends_ok {c r : Nat} {d t s sp lk : D} {x1 x2 x6 x8 : B} (hD : Dr c d) (hc : c ≤ 200000) (hr : r ≤ 3) (hG : Gd 1 7 t) :
    ∃ (t' d' : D) (y8 : B), Gd 4 722 t' ∧ Dr (c + 36) d' ∧ forR (gNm 8) (b13f0 (sem pds 59)) (rngL 0 r) [.fr s, x1, x2, .ow d, .fr sp, .fr lk, x6, .fr t, x8] = .nx [.fr s, x1, x2, .ow d', .fr sp, .fr lk, x6, .fr t', y8] := by
  have hlen : (rngL 0 r).length = r := by simp [rngL]
  obtain ⟨ρ', f1, t', d', y8, f2, f3, f4⟩ := forR_inv (g := gNm 8) (b := b13f0 (sem pds 59)) (fun i ρ => ∃ (t' d' : D) (y8 : B), (i ≤ 3 → Gd (1 + i) (mm i) t') ∧ (i ≤ 3 → Dr (c + 12 * i) d') ∧ ρ = [.fr s, x1, x2, .ow d', .fr sp, .fr lk, x6, .fr t', y8]) (ds := rngL 0 r) (ρ := [.fr s, x1, x2, .ow d, .fr sp, .fr lk, x6, .fr t, x8]) ⟨t, d, x8, fun _ => hG, fun _ => hD, rfl⟩
    (fun i e ρ he ⟨t', d', y8, h1, h2, h3⟩ => by
      subst h3
      have hi : i < r := by rw [← hlen]; exact (List.getElem?_eq_some_iff.mp he).1
      have hm : 1 ≤ mm i ∧ mm i ≤ 900 := by
        have : i = 0 ∨ i = 1 ∨ i = 2 := by omega
        rcases this with h | h | h <;> subst h <;> decide
      obtain ⟨t2, d2, q1, q2, q3⟩ := bent_ok hm.2 hm.1 (1 + i) (55 - i) (c + 12 * i) d' t' (h2 (by omega)) (by omega) (h1 (by omega))
      rw [show 55 - i + (1 + i) + 3 = 59 by omega] at q3
      refine ⟨_, by simp; rfl, [.fr s, x1, x2, .ow d2, .fr sp, .fr lk, x6, .fr t2, .fr e], .inl (by simp [b13f0, q3]), t2, d2, .fr e, fun _ => ?_, fun _ => q2.mono (by omega), rfl⟩
      rw [show 1 + (i + 1) = 1 + i + 1 by omega]
      exact q1)
  rw [hlen] at f2 f3
  have h722 : mm r ≤ 722 := by
    have : r = 0 ∨ r = 1 ∨ r = 2 ∨ r = 3 := by omega
    rcases this with h | h | h | h <;> subst h <;> decide
  exact ⟨t', d', y8, (f2 hr).mono (by omega) h722, (f3 hr).mono (by omega), by rw [f1, f4]⟩
theorem turn_ok {c : Nat} {d s sp lk : D} {x1 x2 x6 x7 x8 : B} (hD : Dr c d) (hc : c ≤ 100000) (hl : Lk lk) :
    ∃ (t' d' : D) (y8 : B), Dr (c + 40) d' ∧ b13f1 (sem pds 59) [.fr s, x1, x2, .ow d, .fr sp, .fr lk, x6, x7, x8] = .nx [.fr s, x1, x2, .ow d', .fr sp, .fr lk, x6, .fr t', y8] := by
  have hg := hl.gd
  obtain ⟨cc, mk, x, y, h1, h2, h3, h4, h5, h6, rfl⟩ := hl
  have g5 : Gd 1 7 (.str x) := .str h5.1 h5.2
  have g6 : Gd 1 7 (.str y) := .str h6.1 h6.2
  obtain ⟨t, d1, a1, a2, a3⟩ := pickG (k := 57) (n := 1) (m := 7) (xs := [.tuple [.int cc, .int mk, .str x, .str y], .tuple [.int cc, .int mk, .str x, .str y], .str x, .int cc, .tuple [.str x, .str y]]) hD (by omega) (by simp) (by simp) (fun v hv => by
    simp only [List.mem_cons, List.not_mem_nil, or_false] at hv
    rcases hv with h | h | h | h | h <;> subst h
    · exact hg
    · exact hg
    · exact g5
    · exact .int (by omega)
    · refine .tup (by simp) fun v hv => ?_
      simp only [List.mem_cons, List.not_mem_nil, or_false] at hv
      rcases hv with h | h <;> subst h
      · exact .str h5.1 h5.2
      · exact .str h6.1 h6.2)
  obtain ⟨r, d2, b1, b2, b3, b4⟩ := next_ok (k := 58) (s := 4) a2 (by omega) (by decide) (by decide)
  have hr : gRng1 [.int r] = some (rngL 0 r.toNat) := rng1_ok (by omega) (by omega)
  obtain ⟨t', d3, y8, c1, c2, c3⟩ := bends_ok (s := s) (sp := sp) (lk := .tuple [.int cc, .int mk, .str x, .str y]) (x1 := x1) (x2 := x2) (x6 := x6) (x8 := x8) (r := r.toNat) b1 (by omega) (by omega) a1
  have q1 := told_ok (k := 56) c1 (by omega)
  have q2 := told_ok (k := 56) hg (by omega)
  have q3 := told_ok (k := 56) g6 (by omega)
  have hs : gSl (.tuple [.int cc, .int mk, .str x, .str y]) (some 2) none = some (.fr (.tuple [.str x, .str y])) := rfl
  refine ⟨t', d3, y8, c2.mono (by omega), ?_⟩
  simp [b13f1, hs, gList_of, a3, b4, hr, c3, q1, q2, q3]
theorem cell_ok {i : Nat} {cell s : D} {x3 x4 x5 x6 x7 x8 : B} {z : Int} (hi : i < 100) (hcell : cell = .int z) :
    ∃ (y3 y4 y5 y6 y7 y8 : B), b13f2 (sem pds 59) [.fr s, .fr (.int i), .fr cell, x3, x4, x5, x6, x7, x8] = .nx [.fr s, .fr (.int i), .fr cell, y3, y4, y5, y6, y7, y8] := by
  subst hcell
  obtain ⟨d, a1, a2⟩ := begun_ok (k := 58) (a := z) (b := (i : Int)) (by omega)
  obtain ⟨r, d1, b1, b2, b3, b4⟩ := next_ok (k := 58) (s := 3) a1 (by omega) (by decide) (by decide)
  obtain ⟨q, hq⟩ : ∃ q : Nat, 2 + r = (q : Int) := ⟨(2 + r).toNat, by omega⟩
  obtain ⟨zs, d2, c1, c2, c3, c4⟩ := spots_ok (k := 56) (m := q) b1 (by omega) (by omega)
  obtain ⟨E, bb, d3, e1, e2, e3, e4, e5, e6⟩ := pairs_ok (k := 56) c3 (by omega) (by omega) (by omega) c2
  obtain ⟨lk, d4, f1, f2, f3⟩ := link_ok (k := 56) e5 (by omega) e2 e3 e4
  have hr : gRng1 [.int 4] = some (rngL 0 4) := rng1_ok (by omega) (by omega)
  have hlen : (rngL 0 4).length = 4 := by simp [rngL]
  obtain ⟨ρ', g1, d5, y6, y7, y8, g2, g3⟩ := forR_inv (g := gNm 6) (b := b13f1 (sem pds 59)) (fun j ρ => ∃ (d' : D) (y6 y7 y8 : B), (j ≤ 4 → Dr (1000 + 40 * j) d') ∧ ρ = [.fr s, .fr (.int i), .fr (.int z), .ow d', .fr (.list (zs.map .str)), .fr lk, y6, y7, y8]) (ds := rngL 0 4)
    (ρ := [.fr s, .fr (.int i), .fr (.int z), .ow d4, .fr (.list (zs.map .str)), .fr lk, x6, x7, x8]) ⟨d4, x6, x7, x8, fun _ => f2.mono (by omega), rfl⟩ (fun j e ρ he ⟨d', y6, y7, y8, h1, h2⟩ => by
      subst h2
      have hj : j < 4 := by rw [← hlen]; exact (List.getElem?_eq_some_iff.mp he).1
      obtain ⟨t', d6, z8, w1, w2⟩ := turn_ok (s := s) (sp := .list (zs.map .str)) (lk := lk) (x1 := .fr (.int i)) (x2 := .fr (.int z)) (x6 := .fr e) (x7 := y7) (x8 := y8) (h1 (by omega)) (by omega) f1
      exact ⟨_, by simp, _, .inl w2, d6, _, _, _, fun _ => w1.mono (by omega), rfl⟩)
  subst g3
  have fb : ∀ {β : Type} (ρ : FK.Env) (k : D → FK.Env → Rs β), (Rs.ok bb ρ).frd k = k (.list E) ρ := fun ρ k => by
    show (match frz bb with
      | some d => k d ρ
      | none => .bad) = _
    rw [e1]
  exact ⟨.ow d5, .fr (.list (zs.map .str)), .fr lk, y6, y7, y8, by simp [b13f2, a2, b4, hq, c4, e6, fb, f3, hr, g1]⟩
theorem is_link_true : ∀ k, sem pds (k + 2) 2 [.fr (.tuple [.int 0, .int 0, .str "a", .str "aa"])] = .ok (.fr (.bool true)) [.fr (.tuple [.int 0, .int 0, .str "a", .str "aa"])] := fun k => by
  have h := isl_ok (k := k) (n := 1) (m := 7) (t := .tuple [.int 0, .int 0, .str "a", .str "aa"]) (.tup (by simp) fun v hv => by
    simp only [List.mem_cons, List.not_mem_nil, or_false] at hv
    rcases hv with h | h | h | h <;> subst h
    · exact .int (by omega)
    · exact .int (by omega)
    · exact .str (by decide +kernel) (by decide +kernel)
    · exact .str (by decide +kernel) (by decide +kernel)) (by omega)
  rw [h, show linkP (.tuple [.int 0, .int 0, .str "a", .str "aa"]) = true by decide +kernel]
theorem is_link_false : ∀ k, sem pds (k + 2) 2 [.fr (.tuple [.int 0, .int 0, .str "aa", .str "a"])] = .ok (.fr (.bool false)) [.fr (.tuple [.int 0, .int 0, .str "aa", .str "a"])] := fun k => by
  have h := isl_ok (k := k) (n := 1) (m := 7) (t := .tuple [.int 0, .int 0, .str "aa", .str "a"]) (.tup (by simp) fun v hv => by
    simp only [List.mem_cons, List.not_mem_nil, or_false] at hv
    rcases hv with h | h | h | h <;> subst h
    · exact .int (by omega)
    · exact .int (by omega)
    · exact .str (by decide +kernel) (by decide +kernel)
    · exact .str (by decide +kernel) (by decide +kernel)) (by omega)
  rw [h, show linkP (.tuple [.int 0, .int 0, .str "aa", .str "a"]) = false by decide +kernel]
theorem plain (ns : List Int) (hl : ns.length ≤ 63) (hb : ∀ z ∈ ns, Builtin.Int.intBits z ≤ 1048576) : ∃ ρ, sem pds 60 13 [.fr (.list (ns.map .int))] = .ok (.fr (.bool true)) ρ := by
  -- the cells
  have core : ∀ (xs : List Int) (s : D), xs.length ≤ 63 → ∃ (y1 y2 y3 y4 y5 y6 y7 y8 : B), forR (gTp 2 (gsCons (gNm 1) (gsCons (gNm 2) gsNil))) (b13f2 (sem pds 59)) (pairsAt (rngL 0 (FK.cutD (xs.map PyData.int) none (some 12)).length) (FK.cutD (xs.map PyData.int) none (some 12))) [.fr s, .no, .no, .no, .no, .no, .no, .no, .no] = .nx [.fr s, y1, y2, y3, y4, y5, y6, y7, y8] := by
    intro xs s hx
    obtain ⟨ρ', f1, y1, y2, y3, y4, y5, y6, y7, y8, f2⟩ := forR_inv (g := gTp 2 (gsCons (gNm 1) (gsCons (gNm 2) gsNil))) (b := b13f2 (sem pds 59)) (fun i ρ => ∃ (y1 y2 y3 y4 y5 y6 y7 y8 : B), ρ = [.fr s, y1, y2, y3, y4, y5, y6, y7, y8]) (ds := pairsAt (rngL 0 (FK.cutD (xs.map PyData.int) none (some 12)).length) (FK.cutD (xs.map PyData.int) none (some 12)))
      (ρ := [.fr s, .no, .no, .no, .no, .no, .no, .no, .no]) ⟨.no, .no, .no, .no, .no, .no, .no, .no, rfl⟩ (fun i e ρ he ⟨y1, y2, y3, y4, y5, y6, y7, y8, h⟩ => by
        subst h
        obtain ⟨z, hz, rfl⟩ := enum_get he
        have hz2 := cutD_mem (List.mem_of_getElem? hz)
        obtain ⟨w, hw, rfl⟩ := List.mem_map.mp hz2
        have hi : i < 100 := by
          have h1 := (List.getElem?_eq_some_iff.mp hz).1
          have h2 := cutD_len (ds := xs.map PyData.int) (lo := none) (hi := some 12)
          rw [List.length_map] at h2
          omega
        obtain ⟨z3, z4, z5, z6, z7, z8, q⟩ := cell_ok (s := s) (x3 := y3) (x4 := y4) (x5 := y5) (x6 := y6) (x7 := y7) (x8 := y8) hi (rfl : PyData.int w = PyData.int w)
        exact ⟨_, by simp, _, .inl q, _, _, _, _, _, _, _, _, rfl⟩)
    exact ⟨y1, y2, y3, y4, y5, y6, y7, y8, by rw [f1, f2]⟩
  have t1 := is_link_true 57
  have t2 := is_link_false 57
  rw [e13]
  by_cases hn : ns = []
  · obtain ⟨y1, y2, y3, y4, y5, y6, y7, y8, q⟩ := core [5] (.list (ns.map .int)) (by simp)
    have hg : gSl (.list [.int 5]) none (some 12) = some (.ow (.list (FK.cutD ([5].map PyData.int) none (some 12)))) := rfl
    have he : gEnum [.list (FK.cutD ([5].map PyData.int) none (some 12))] = some (pairsAt (rngL 0 (FK.cutD ([5].map PyData.int) none (some 12)).length) (FK.cutD ([5].map PyData.int) none (some 12))) := rfl
    have ht : truth (.list (ns.map .int)) = false := by rw [hn]; rfl
    have ho : okTruth (.list (ns.map .int)) = true := rfl
    generalize FK.cutD ([5].map PyData.int) none (some 12) = L at *
    generalize PyData.list (ns.map .int) = S at *
    exact ⟨[.fr S], by simp [b13, ht, ho, gList_of, hg, he, q, gTuple_of, t1, t2]⟩
  · obtain ⟨y1, y2, y3, y4, y5, y6, y7, y8, q⟩ := core ns (.list (ns.map .int)) hl
    have hg : gSl (.list (ns.map .int)) none (some 12) = some (.ow (.list (FK.cutD (ns.map PyData.int) none (some 12)))) := rfl
    have he : gEnum [.list (FK.cutD (ns.map PyData.int) none (some 12))] = some (pairsAt (rngL 0 (FK.cutD (ns.map PyData.int) none (some 12)).length) (FK.cutD (ns.map PyData.int) none (some 12))) := rfl
    have ht : truth (.list (ns.map .int)) = true := by
      cases ns with
      | nil => exact absurd rfl hn
      | cons _ _ => rfl
    have ho : okTruth (.list (ns.map .int)) = true := rfl
    generalize FK.cutD (ns.map PyData.int) none (some 12) = L at *
    generalize PyData.list (ns.map .int) = S at *
    exact ⟨[.fr S], by simp [b13, ht, ho, gList_of, hg, he, q, gTuple_of, t1, t2]⟩
end Lw
set_option Elab.async false
set_option linter.all false
set_option maxRecDepth 100000
set_option maxHeartbeats 0
open PySem PySem.W PySem.Calls PyProof.Rows
theorem PySem.Challenge.cw_fewkept_k01_places_and_links_known_holds : PySem.Challenge.rw_fewkept_k01_places_and_links_known.Holds := by
  w_on; o_law
  refine HandSHeadRun.head_any (r := OpenLaw.row PySem.Challenge.rw_fewkept_k01_places_and_links_known) (q := view (OpenLaw.row PySem.Challenge.rw_fewkept_k01_places_and_links_known).prog [17]) (H := Lw.hk) (ob := Lw.ob) (M := 4000) (loose := Lw.loose) (d := HandSHeadRun.topDef (OpenLaw.row PySem.Challenge.rw_fewkept_k01_places_and_links_known).prog 17) (kwd := []) Lw.ob_eq
    (by kernel_rfl) (fun s => by kernel_rfl) Lw.run (by kernel_rfl) (by kernel_rfl) (by kernel_rfl) (by rfl) (by first | assumption | decide +kernel) (by decide +kernel) ⟨rfl, rfl, rfl, rfl, rfl, by decide +kernel⟩ ?hw ?hc
  case hw => w_witness2
  case hc =>
    refine FK.walk_E (l := PySem.Challenge.rw_fewkept_k01_places_and_links_known) (n := 63) (k := 60) (x := "script") rfl (by decide) (by kernel_rfl) ⟨rfl, by decide, by decide⟩ ?F
    intro w mg fa h Y G hmg0
    obtain ⟨K, KX, c⟩ := Y
    have hmg : mg ("law" : PySem.Str) = some (.ref fa) := by
      have e : (HandSHeadRun.topDef (OpenLaw.row PySem.Challenge.rw_fewkept_k01_places_and_links_known).prog 17).name = ("law" : PySem.Str) := by kernel_rfl
      rw [← e]
      exact hmg0
    obtain ⟨fds, g⟩ := Lw.link KX G c
    have e := hmg.symm.trans g.a13.gl
    cases e
    have b := L2.FunD.bindsA (ps := ["script"]) g.F13 fun _ _ _ _ _ _ us hl => match us, hl with | [_], _ => rfl
    exact ⟨K, fds 13, _, KX, fun s v => b s [v] rfl, fun H a ns hl hb hS => FK.law_ends (T := Lw.TT K) rfl (pds := Lw.pds) (i := 13) (k := 60) rfl hS (Lw.plain ns hl hb), fun base _ _ => Lw.all g 60 13 (by decide)⟩
