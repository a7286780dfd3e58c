import PyProof.Rows.All
import Wide.All
import OpenK.AllK
import Wide.FinOn
import HandS.ForMost
import HandS.Exc
import HandS.ExcOwn
import HandS.Star
import HandS.IsInst
import HandS.TupAny
import HandS.TupMul
import HandS.Lambda
import KE.GoesEnum
import HandS.WordsExc
import KE.KExcSuper
import KE.KSuper
import HandS.HeadWalk
import HandS.EndTab
import KE.DataMinMax
import HandS.Style
import HandS.Small
import HandS.ForList
import HandS.SetFor
import HandS.Strs
import HandS.HeadHook4
import HandS.Head2
import HandS.Defaults
import KE.KNestM
import HandS.Conv
import HandS.Zip
import KE.SortData
import PySem.Challenge.RW_tollkeeper_k06_whole_loads
set_option Elab.async false
set_option linter.all false
set_option maxRecDepth 100000
set_option maxHeartbeats 0
/-! # TD: data over the hand layer. Tuples, and lists that nobody changes, are values; what changes stands at an address of G -/
namespace TD
open PySem L2

/-- data -/
inductive D where
  | non | bl (b : Bool) | int (i : Int) | str (x : Str) | ref (a : Addr) | ty (n : String) | dic
  | tup (xs : List D) | lst (xs : List D) | scr (ns : List Int)

/-- what stands at a told address -/
inductive MO where
  | lst (xs : List D)
  | dK (kvs : List (Key × D))
  | dT (kvs : List (List Key × D))
  | fK (o : Obj) (ks : List (Key × V)) (kvs : List (Key × D))
  | fT (o : Obj) (ks : List (List Key × V)) (kvs : List (List Key × D))
  | ins (C : Addr) (fs : List (Str × D))
  | tab (q : Str)
abbrev GH := Addr → Option MO
def gup (G : GH) (a : Addr) (m : MO) : GH := fun b => if b = a then some m else G b
theorem gup_same {G : GH} {a : Addr} {m : MO} : gup G a m a = some m := by unfold gup; rw [if_pos rfl]
theorem gup_ne {G : GH} {a b : Addr} {m : MO} (h : b ≠ a) : gup G a m b = G b := by unfold gup; rw [if_neg h]
theorem gup_gup {G : GH} {a : Addr} {m n : MO} : gup (gup G a m) a n = gup G a n := by
  funext b; unfold gup; split <;> rfl

section
variable (K : PySem.W.Frag)
/-- a list's object of the written part -/
def KLst (a : Addr) (xs : List V) : Prop :=
  ∃ (o : Obj) (its : Array Value) (n : Nat), K.lookup a = some o ∧ o.cls = .type "list" ∧ o.dict = none ∧ o.data = .seq its n ∧ its.size ≤ sizeLine ∧ Vals xs its.toList
/-- a list that nobody can change (the script) -/
def LV (Z : Addr → Prop) (G : GH) (H : Hp) (a : Addr) (xs : List V) : Prop :=
  (G a = none ∧ ¬ Z a ∧ Rd H a (.lst xs)) ∨ KLst K a xs
mutual
inductive DV (Z : Addr → Prop) (G : GH) (H : Hp) : D → V → Prop
  | non : DV Z G H .non .non
  | bl (b : Bool) : DV Z G H (.bl b) (.bl b)
  | int (i : Int) : DV Z G H (.int i) (.int i)
  | str (x : Str) : DV Z G H (.str x) (.str x)
  | ref (a : Addr) : DV Z G H (.ref a) (.ref a)
  | ty (n : String) : DV Z G H (.ty n) (.ty n)
  | dic {a : Addr} : ¬ Z a → G a = none → ((∃ kvs, H a = some (.dK kvs)) ∨ ∃ kvs, H a = some (.dT kvs)) → DV Z G H .dic (.ref a)
  | tup {a : Addr} {vs : List V} {ds : List D} : ¬ Z a → G a = none → H a = some (.tup vs) → vs.length ≤ sizeLine → DVs Z G H ds vs → DV Z G H (.tup ds) (.ref a)
  | lst {a : Addr} {vs : List V} {ds : List D} : ¬ Z a → G a = none → H a = some (.lst vs) → vs.length ≤ sizeLine → DVs Z G H ds vs → DV Z G H (.lst ds) (.ref a)
  | scr {a : Addr} {ns : List Int} : LV K Z G H a (ns.map V.int) → ns.length ≤ sizeLine → DV Z G H (.scr ns) (.ref a)
inductive DVs (Z : Addr → Prop) (G : GH) (H : Hp) : List D → List V → Prop
  | nil : DVs Z G H [] []
  | cons {d : D} {v : V} {ds : List D} {vs : List V} : DV Z G H d v → DVs Z G H ds vs → DVs Z G H (d :: ds) (v :: vs)
end
end

/-- what is not told stays as it is, and untold -/
def Fr (G : GH) (H : Hp) (G' : GH) (H' : Hp) : Prop := ∀ b o, H b = some o → G b = none → H' b = some o ∧ G' b = none
theorem Fr.refl (G : GH) (H : Hp) : Fr G H G H := fun _ _ h n => ⟨h, n⟩
theorem Fr.trans {G G1 G2 : GH} {H H1 H2 : Hp} (a : Fr G H G1 H1) (b : Fr G1 H1 G2 H2) : Fr G H G2 H2 := fun c o h n => by
  obtain ⟨h1, n1⟩ := a c o h n
  exact b c o h1 n1

section
variable {K : PySem.W.Frag} {Z : Addr → Prop} {G G' G1 : GH} {H H' H1 : Hp}
theorem LV.mono {a : Addr} {xs : List V} (f : Fr G H G' H') (h : LV K Z G H a xs) : LV K Z G' H' a xs := by
  rcases h with ⟨g, nz, h | ⟨o, h⟩⟩ | h
  · obtain ⟨h1, n1⟩ := f _ _ h g
    exact .inl ⟨n1, nz, .inl h1⟩
  · obtain ⟨h1, n1⟩ := f _ _ h g
    exact .inl ⟨n1, nz, .inr ⟨o, h1⟩⟩
  · exact .inr h
theorem LV.zmono {Z' : Addr → Prop} {a : Addr} {xs : List V} (hz : ∀ a, H a ≠ none → Z' a → Z a) (h : LV K Z G H a xs) : LV K Z' G H a xs := by
  rcases h with ⟨g, nz, h⟩ | h
  · refine .inl ⟨g, fun q => nz (hz a ?_ q), h⟩
    rcases h with h | ⟨o, h⟩ <;> (rw [h]; exact fun z => nomatch z)
  · exact .inr h
theorem LV.seq {a : Addr} {xs : List V} (h : LV K Z G H a xs) : SqL K H a xs := by
  rcases h with ⟨g, _, h⟩ | h
  · exact .inl h
  · exact .inr h
mutual
theorem DV.mono (f : Fr G H G' H') : ∀ {d : D} {v : V}, DV K Z G H d v → DV K Z G' H' d v
  | _, _, .non => .non
  | _, _, .bl b => .bl b
  | _, _, .int i => .int i
  | _, _, .str x => .str x
  | _, _, .ref a => .ref a
  | _, _, .ty n => .ty n
  | _, _, .dic nz g h => by
    rcases h with ⟨k, h⟩ | ⟨k, h⟩
    · obtain ⟨h1, n1⟩ := f _ _ h g
      exact .dic nz n1 (.inl ⟨k, h1⟩)
    · obtain ⟨h1, n1⟩ := f _ _ h g
      exact .dic nz n1 (.inr ⟨k, h1⟩)
  | _, _, .tup nz g h z r => by
    obtain ⟨h1, n1⟩ := f _ _ h g
    exact .tup nz n1 h1 z (DVs.mono f r)
  | _, _, .lst nz g h z r => by
    obtain ⟨h1, n1⟩ := f _ _ h g
    exact .lst nz n1 h1 z (DVs.mono f r)
  | _, _, .scr h z => .scr (h.mono f) z
theorem DVs.mono (f : Fr G H G' H') : ∀ {ds : List D} {vs : List V}, DVs K Z G H ds vs → DVs K Z G' H' ds vs
  | _, _, .nil => .nil
  | _, _, .cons a b => .cons (DV.mono f a) (DVs.mono f b)
end
theorem DVs.length : ∀ {ds : List D} {vs : List V}, DVs K Z G H ds vs → ds.length = vs.length
  | _, _, .nil => rfl
  | _, _, .cons _ b => by rw [List.length_cons, List.length_cons, DVs.length b]
theorem DVs.get : ∀ {ds : List D} {vs : List V} {i : Nat} {d : D}, DVs K Z G H ds vs → ds[i]? = some d → ∃ v, vs[i]? = some v ∧ DV K Z G H d v
  | _, _, _, _, .nil, e => by simp at e
  | _, _, 0, _, .cons r _, e => by simp at e; subst e; exact ⟨_, rfl, r⟩
  | _, _, i + 1, d, .cons _ t, e => by
    obtain ⟨v, h1, h2⟩ := DVs.get (i := i) (d := d) t (by simpa using e)
    exact ⟨v, by simpa using h1, h2⟩
theorem DVs.getV : ∀ {ds : List D} {vs : List V} {i : Nat} {v : V}, DVs K Z G H ds vs → vs[i]? = some v → ∃ d, ds[i]? = some d ∧ DV K Z G H d v
  | _, _, _, _, .nil, e => by simp at e
  | _, _, 0, _, .cons r _, e => by simp at e; subst e; exact ⟨_, rfl, r⟩
  | _, _, i + 1, d, .cons _ t, e => by
    obtain ⟨v, h1, h2⟩ := DVs.getV (i := i) (v := d) t (by simpa using e)
    exact ⟨v, by simpa using h1, h2⟩
theorem DVs.append : ∀ {ds es : List D} {vs us : List V}, DVs K Z G H ds vs → DVs K Z G H es us → DVs K Z G H (ds ++ es) (vs ++ us)
  | _, _, _, _, .nil, s => s
  | _, _, _, _, .cons r t, s => .cons r (DVs.append t s)
theorem DVs.set {d : D} {v : V} (r : DV K Z G H d v) : ∀ {ds : List D} {vs : List V} (i : Nat), DVs K Z G H ds vs → DVs K Z G H (ds.set i d) (vs.set i v)
  | _, _, _, .nil => .nil
  | _, _, 0, .cons _ t => .cons r t
  | _, _, i + 1, .cons q t => .cons q (DVs.set r i t)
theorem DVs.take : ∀ {ds : List D} {vs : List V} (n : Nat), DVs K Z G H ds vs → DVs K Z G H (ds.take n) (vs.take n)
  | _, _, 0, _ => .nil
  | _, _, _ + 1, .nil => .nil
  | _, _, n + 1, .cons r t => .cons r (DVs.take n t)
theorem DVs.drop : ∀ {ds : List D} {vs : List V} (n : Nat), DVs K Z G H ds vs → DVs K Z G H (ds.drop n) (vs.drop n)
  | _, _, 0, r => r
  | _, _, _ + 1, .nil => .nil
  | _, _, n + 1, .cons _ t => DVs.drop n t
theorem DVs.eraseIdx : ∀ {ds : List D} {vs : List V} (n : Nat), DVs K Z G H ds vs → DVs K Z G H (ds.eraseIdx n) (vs.eraseIdx n)
  | _, _, _, .nil => .nil
  | _, _, 0, .cons _ t => t
  | _, _, n + 1, .cons r t => .cons r (DVs.eraseIdx n t)
theorem DVs.reverse {ds : List D} {vs : List V} (h : DVs K Z G H ds vs) : DVs K Z G H ds.reverse vs.reverse := by
  induction ds generalizing vs with
  | nil => cases h; exact .nil
  | cons d ds ih =>
    cases h with
    | cons a b =>
      rw [List.reverse_cons, List.reverse_cons]
      exact (ih b).append (.cons a .nil)
theorem DVs.rep {ds : List D} {vs : List V} (h : DVs K Z G H ds vs) : ∀ k : Nat, DVs K Z G H (List.replicate k ds).flatten (List.replicate k vs).flatten
  | 0 => .nil
  | k + 1 => by
    rw [List.replicate_succ, List.replicate_succ, List.flatten_cons, List.flatten_cons]
    exact h.append (DVs.rep h k)
theorem DVs.ints : ∀ {ns : List Int} {vs : List V}, DVs K Z G H (ns.map D.int) vs → vs = ns.map V.int
  | [], _, .nil => rfl
  | n :: ns, _, .cons a b => by
    cases a
    rw [DVs.ints b] <;> rfl
theorem DVs.of_ints : ∀ (ns : List Int), DVs K Z G H (ns.map D.int) (ns.map V.int)
  | [] => .nil
  | n :: ns => .cons (.int n) (DVs.of_ints ns)
theorem DVs.strs : ∀ {ns : List Str} {vs : List V}, DVs K Z G H (ns.map D.str) vs → vs = ns.map V.str
  | [], _, .nil => rfl
  | n :: ns, _, .cons a b => by
    cases a
    rw [DVs.strs b] <;> rfl
theorem DVs.bls : ∀ {ns : List Bool} {vs : List V}, DVs K Z G H (ns.map D.bl) vs → vs = ns.map V.bl
  | [], _, .nil => rfl
  | n :: ns, _, .cons a b => by
    cases a
    rw [DVs.bls b] <;> rfl

/-! ### the told objects -/
abbrev PairD (K : PySem.W.Frag) (Z : Addr → Prop) (G : GH) (H : Hp) {κ : Type} : List (κ × D) → List (κ × V) → Prop := Paired fun (p : κ × D) (q : κ × V) => p.1 = q.1 ∧ DV K Z G H p.2 q.2
theorem PairD.mono {κ : Type} (f : Fr G H G' H') : ∀ {l : List (κ × D)} {m : List (κ × V)}, PairD K Z G H l m → PairD K Z G' H' l m
  | _, _, .nil => .nil
  | _, _, .cons a b => .cons ⟨a.1, a.2.mono f⟩ (PairD.mono f b)
def MR (K : PySem.W.Frag) (Z : Addr → Prop) (G : GH) (H : Hp) (a : Addr) : MO → Prop
  | .lst ds => ∃ vs, H a = some (.lst vs) ∧ DVs K Z G H ds vs ∧ vs.length ≤ sizeLine
  | .dK kvs => ∃ ks, H a = some (.dK ks) ∧ PairD K Z G H kvs ks
  | .dT kvs => ∃ ks, H a = some (.dT ks) ∧ PairD K Z G H kvs ks
  | .fK o ks kvs => H a = some (.frz o (.dK ks)) ∧ PairD K Z G H kvs ks
  | .fT o ks kvs => H a = some (.frz o (.dT ks)) ∧ PairD K Z G H kvs ks
  | .ins C fs => ∃ dx fv, H a = some (.ins C dx fv) ∧ PairD K Z G H fs fv
  | .tab q => ∃ ps : Array Value, H a = some (.tbl ps) ∧ TriplesOk ps.toList ∧ ∀ (pos : Pos) (cv : Value), codeAmong pos ps.toList = some cv → ∃ c, cv = .ref c ∧ H c = some (LamX.CodeO c q) ∧ G c = none
structure HR (K : PySem.W.Frag) (Z : Addr → Prop) (G : GH) (H : Hp) : Prop where
  at_ : ∀ a m, G a = some m → MR K Z G H a m
  hid : ∀ a, Z a → (∃ ws, H a = some (.lst ws)) ∧ G a = none
theorem MR.some {a : Addr} {m : MO} (h : MR K Z G H a m) : H a ≠ none := by
  cases m with
  | lst ds => obtain ⟨vs, e, _⟩ := h; rw [e]; exact fun z => nomatch z
  | dK ds => obtain ⟨vs, e, _⟩ := h; rw [e]; exact fun z => nomatch z
  | dT ds => obtain ⟨vs, e, _⟩ := h; rw [e]; exact fun z => nomatch z
  | fK o ks ds => obtain ⟨e, _⟩ := h; rw [e]; exact fun z => nomatch z
  | fT o ks ds => obtain ⟨e, _⟩ := h; rw [e]; exact fun z => nomatch z
  | ins C fs => obtain ⟨_, _, e, _⟩ := h; rw [e]; exact fun z => nomatch z
  | tab q => obtain ⟨_, e, _⟩ := h; rw [e]; exact fun z => nomatch z
theorem HR.free (h : HR K Z G H) {p : Addr} (e : H p = none) : G p = none := by
  cases q : G p with
  | none => rfl
  | some m => exact absurd e (h.at_ p m q).some
theorem HR.noZ (h : HR K Z G H) {p : Addr} (e : H p = none) : ¬ Z p := fun z => by
  obtain ⟨ws, q⟩ := (h.hid p z).1
  rw [e] at q
  cases q
theorem HR.tupZ (h : HR K Z G H) {p : Addr} {vs : List V} (e : H p = some (.tup vs)) : ¬ Z p ∧ G p = none := by
  refine ⟨fun z => ?_, ?_⟩
  · obtain ⟨ws, q⟩ := (h.hid p z).1
    rw [e] at q
    cases q
  · cases g : G p with
    | none => rfl
    | some m =>
      have r := h.at_ p m g
      cases m with
      | lst ds => obtain ⟨_, q, _⟩ := r; rw [e] at q; cases q
      | dK ds => obtain ⟨_, q, _⟩ := r; rw [e] at q; cases q
      | dT ds => obtain ⟨_, q, _⟩ := r; rw [e] at q; cases q
      | fK o ks ds => obtain ⟨q, _⟩ := r; rw [e] at q; cases q
      | fT o ks ds => obtain ⟨q, _⟩ := r; rw [e] at q; cases q
      | ins C fs => obtain ⟨_, _, q, _⟩ := r; rw [e] at q; cases q
      | tab w => obtain ⟨_, q, _⟩ := r; rw [e] at q; cases q
theorem hid_mono {a : Addr} (f : Fr G H G' H') (h : (∃ ws, H a = some (.lst ws)) ∧ G a = none) : (∃ ws, H' a = some (.lst ws)) ∧ G' a = none := by
  obtain ⟨⟨ws, h1⟩, h2⟩ := h
  obtain ⟨e, n⟩ := f a _ h1 h2
  exact ⟨⟨ws, e⟩, n⟩
theorem MR.keep {a : Addr} {m : MO} (f : Fr G H G' H') (e : H' a = H a) (h : MR K Z G H a m) : MR K Z G' H' a m := by
  cases m with
  | lst ds => obtain ⟨vs, h1, h2, h3⟩ := h; exact ⟨vs, e.trans h1, h2.mono f, h3⟩
  | dK ds => obtain ⟨vs, h1, h2⟩ := h; exact ⟨vs, e.trans h1, h2.mono f⟩
  | dT ds => obtain ⟨vs, h1, h2⟩ := h; exact ⟨vs, e.trans h1, h2.mono f⟩
  | fK o ks ds => obtain ⟨h1, h2⟩ := h; exact ⟨e.trans h1, h2.mono f⟩
  | fT o ks ds => obtain ⟨h1, h2⟩ := h; exact ⟨e.trans h1, h2.mono f⟩
  | ins C fs => obtain ⟨dx, fv, h1, h2⟩ := h; exact ⟨dx, fv, e.trans h1, h2.mono f⟩
  | tab q =>
    obtain ⟨ps, h1, h2, h3⟩ := h
    refine ⟨ps, e.trans h1, h2, fun pos cv hc => ?_⟩
    obtain ⟨c, e1, e2, e3⟩ := h3 pos cv hc
    exact ⟨c, e1, (f _ _ e2 e3).1, (f _ _ e2 e3).2⟩
/-- a new object, untold -/
theorem Fr.new {p : Addr} {o : HO} (e : H p = none) : Fr G H G (upd H p o) := fun b u h n => ⟨by rw [upd_ne (ne_of_none h e)]; exact h, n⟩
theorem HR.new (h : HR K Z G H) {p : Addr} {o : HO} (e : H p = none) : HR K Z G (upd H p o) := ⟨fun a m q =>
  (h.at_ a m q).keep (Fr.new e) (upd_ne fun z => (h.at_ a m q).some (z ▸ e)), fun a q => hid_mono (Fr.new e) (h.hid a q)⟩
/-- a new object, told -/
theorem Fr.newT {p : Addr} {o : HO} {m : MO} (e : H p = none) : Fr G H (gup G p m) (upd H p o) := fun b u h n =>
  ⟨by rw [upd_ne (ne_of_none h e)]; exact h, by rw [gup_ne (ne_of_none h e)]; exact n⟩
theorem HR.newT (h : HR K Z G H) {p : Addr} {o : HO} {m : MO} (e : H p = none) (r : MR K Z (gup G p m) (upd H p o) p m) : HR K Z (gup G p m) (upd H p o) := ⟨fun a n q => by
  by_cases z : a = p
  · rw [z, gup_same] at q
    cases q
    rw [z]; exact r
  · rw [gup_ne z] at q
    exact (h.at_ a n q).keep (Fr.newT e) (upd_ne z), fun a q => hid_mono (Fr.newT e) (h.hid a q)⟩
/-- a told object is written -/
theorem Fr.put {p : Addr} {o : HO} {m m' : MO} (e : G p = some m') : Fr G H (gup G p m) (upd H p o) := fun b u h n => by
  have z : b ≠ p := fun z => by rw [z, e] at n; cases n
  exact ⟨by rw [upd_ne z]; exact h, by rw [gup_ne z]; exact n⟩
theorem HR.put (h : HR K Z G H) {p : Addr} {o : HO} {m m' : MO} (e : G p = some m') (r : MR K Z (gup G p m) (upd H p o) p m) : HR K Z (gup G p m) (upd H p o) := ⟨fun a n q => by
  by_cases z : a = p
  · rw [z, gup_same] at q
    cases q
    rw [z]; exact r
  · rw [gup_ne z] at q
    exact (h.at_ a n q).keep (Fr.put e) (upd_ne z), fun a q => hid_mono (Fr.put e) (h.hid a q)⟩
/-- a told object is forgotten: from now on it is a value -/
def gdel (G : GH) (a : Addr) : GH := fun b => if b = a then none else G b
/-- fewer told objects -/
def Sub (G' G : GH) : Prop := ∀ b m, G' b = some m → G b = some m

/-! ### slots -/
abbrev Rho := List (Option D)
structure SR (K : PySem.W.Frag) (Z : Addr → Prop) (G : GH) (H : Hp) (ρ : Rho) (σ : L2.St) : Prop where
  len : σ.length = ρ.length
  at_ : ∀ (i : Nat) (d : D), ρ[i]? = some (some d) → ∃ v, σ[i]? = some (some v) ∧ DV K Z G H d v
theorem SR.mono {ρ : Rho} {σ : L2.St} (f : Fr G H G' H') (h : SR K Z G H ρ σ) : SR K Z G' H' ρ σ :=
  ⟨h.len, fun i d e => let ⟨v, a, b⟩ := h.at_ i d e; ⟨v, a, b.mono f⟩⟩
theorem SR.set {ρ : Rho} {σ : L2.St} (h : SR K Z G H ρ σ) {d : D} {v : V} (r : DV K Z G H d v) (i : Nat) : SR K Z G H (ρ.set i (some d)) (σ.set i (some v)) := by
  refine ⟨by rw [List.length_set, List.length_set]; exact h.len, fun j e q => ?_⟩
  by_cases z : i = j
  · subst z
    by_cases l : i < ρ.length
    · rw [List.getElem?_set_self l] at q
      cases q
      exact ⟨v, by rw [List.getElem?_set_self (by rw [h.len]; exact l)], r⟩
    · rw [List.getElem?_eq_none (by rw [List.length_set]; omega)] at q
      cases q
  · rw [List.getElem?_set_ne z] at q
    rw [List.getElem?_set_ne z]
    exact h.at_ j e q
/-- a slot is forgotten -/
theorem SR.unset {ρ : Rho} {σ : L2.St} (h : SR K Z G H ρ σ) (o : Option V) (i : Nat) : SR K Z G H (ρ.set i none) (σ.set i o) := by
  refine ⟨by rw [List.length_set, List.length_set]; exact h.len, fun j e q => ?_⟩
  by_cases z : i = j
  · subst z
    by_cases l : i < ρ.length
    · rw [List.getElem?_set_self l] at q
      cases q
    · rw [List.getElem?_eq_none (by rw [List.length_set]; omega)] at q
      cases q
  · rw [List.getElem?_set_ne z] at q
    rw [List.getElem?_set_ne z]
    exact h.at_ j e q
end

/-! ### readings at the level of data -/
/-- what is wanted of an exception of the class at C with these fields -/
abbrev XD := Addr → List (Str × D) → GH → Prop
abbrev DK := D → GH → Prop
abbrev DE := Rho → XD → GH → DK → Prop
abbrev DT := Rho → XD → GH → (Bool → GH → Prop) → Prop
abbrev DA := Rho → XD → GH → (List D → GH → Prop) → Prop
structure DEnds where
  nx : Rho → GH → Prop
  rt : DK
  bk : Rho → GH → Prop := fun _ _ => False
  ct : Rho → GH → Prop := fun _ _ => False
  xx : Rho → XD := fun _ _ _ _ => False
abbrev DS := DEnds → Rho → GH → Prop
abbrev DG := D → Rho → XD → GH → (Rho → GH → Prop) → Prop
abbrev DGs := List D → Rho → XD → GH → (Rho → GH → Prop) → Prop

/-- the way out by an exception -/
def XOk (K : PySem.W.Frag) (Z : Addr → Prop) (W : WX) (G : GH) (H : Hp) (σ : L2.St) (x : XD) : Prop :=
  ∀ (C : Addr) (fs : List (Str × D)) (d : Addr) (fv : List (Str × V)) (G' : GH) (H' : Hp), Fr G H G' H' → HR K Z G' H' → H' d = some (.xd fv) → G' d = none → PairD K Z G' H' fs fv → x C fs G' → W (.ref C) (some d) σ H'
theorem XOk.mono {K : PySem.W.Frag} {Z : Addr → Prop} {W : WX} {G G' : GH} {H H' : Hp} {σ : L2.St} {x : XD} (f : Fr G H G' H') (h : XOk K Z W G H σ x) : XOk K Z W G' H' σ x :=
  fun C fs d fv G2 H2 f2 r2 e n p q => h C fs d fv G2 H2 (f.trans f2) r2 e n p q
def lowE (K : PySem.W.Frag) (W : WX) (d : DE) : TE := fun σ H Q => ∃ (Z : Addr → Prop) (ρ : Rho) (x : XD) (G : GH) (Qd : DK), SR K Z G H ρ σ ∧ HR K Z G H ∧ d ρ x G Qd ∧
  (∀ z v G' H', Fr G H G' H' → HR K Z G' H' → DV K Z G' H' z v → Qd z G' → Q v H') ∧ XOk K Z W G H σ x
def lowT (K : PySem.W.Frag) (W : WX) (d : DT) : TT := fun σ H Q => ∃ (Z : Addr → Prop) (ρ : Rho) (x : XD) (G : GH) (Qd : Bool → GH → Prop), SR K Z G H ρ σ ∧ HR K Z G H ∧ d ρ x G Qd ∧
  (∀ b G' H', Fr G H G' H' → HR K Z G' H' → Qd b G' → Q b H') ∧ XOk K Z W G H σ x
def lowA (K : PySem.W.Frag) (W : WX) (d : DA) : TA := fun σ H Q => ∃ (Z : Addr → Prop) (ρ : Rho) (x : XD) (G : GH) (Qd : List D → GH → Prop), SR K Z G H ρ σ ∧ HR K Z G H ∧ d ρ x G Qd ∧
  (∀ zs vs G' H', Fr G H G' H' → HR K Z G' H' → DVs K Z G' H' zs vs → Qd zs G' → Q vs H') ∧ XOk K Z W G H σ x
structure EndsOk (K : PySem.W.Frag) (Z : Addr → Prop) (W : WX) (G : GH) (H : Hp) (Dd : DEnds) (E : Ends) : Prop where
  nx : ∀ ρ' σ' G' H', Fr G H G' H' → HR K Z G' H' → SR K Z G' H' ρ' σ' → Dd.nx ρ' G' → E.nx σ' H'
  rt : ∀ z v G' H', Fr G H G' H' → HR K Z G' H' → DV K Z G' H' z v → Dd.rt z G' → E.rt v H'
  bk : ∀ ρ' σ' G' H', Fr G H G' H' → HR K Z G' H' → SR K Z G' H' ρ' σ' → Dd.bk ρ' G' → E.bk σ' H'
  ct : ∀ ρ' σ' G' H', Fr G H G' H' → HR K Z G' H' → SR K Z G' H' ρ' σ' → Dd.ct ρ' G' → E.ct σ' H'
  xx : ∀ ρ' σ' G' H', Fr G H G' H' → SR K Z G' H' ρ' σ' → XOk K Z W G' H' σ' (Dd.xx ρ')
theorem EndsOk.mono {K : PySem.W.Frag} {Z : Addr → Prop} {W : WX} {G G1 : GH} {H H1 : Hp} {Dd : DEnds} {E : Ends} (f : Fr G H G1 H1) (h : EndsOk K Z W G H Dd E) : EndsOk K Z W G1 H1 Dd E :=
  ⟨fun ρ' σ' G' H' f2 => h.nx ρ' σ' G' H' (f.trans f2), fun z v G' H' f2 => h.rt z v G' H' (f.trans f2), fun ρ' σ' G' H' f2 => h.bk ρ' σ' G' H' (f.trans f2),
    fun ρ' σ' G' H' f2 => h.ct ρ' σ' G' H' (f.trans f2), fun ρ' σ' G' H' f2 => h.xx ρ' σ' G' H' (f.trans f2)⟩
def lowS (K : PySem.W.Frag) (W : WX) (d : DS) : TS := fun E σ H => ∃ (Z : Addr → Prop) (ρ : Rho) (G : GH) (Dd : DEnds), SR K Z G H ρ σ ∧ HR K Z G H ∧ d Dd ρ G ∧ EndsOk K Z W G H Dd E
/-- targets; vs: the slots that they may set -/
def lowG (K : PySem.W.Frag) (W : WX) (vs : List Nat) (g : DG) : TG := fun v σ H Q => ∃ (Z : Addr → Prop) (z : D) (ρ : Rho) (x : XD) (G : GH) (Qd : Rho → GH → Prop), DV K Z G H z v ∧ SR K Z G H ρ σ ∧ HR K Z G H ∧ g z ρ x G Qd ∧
  (∀ ρ' σ' G' H', Fr G H G' H' → HR K Z G' H' → SR K Z G' H' ρ' σ' → wipe σ' vs = wipe σ vs → Qd ρ' G' → Q σ' H') ∧ XOk K Z W G H σ x
def lowGs (K : PySem.W.Frag) (W : WX) (vs : List Nat) (g : DGs) : TGs := fun us σ H Q => ∃ (Z : Addr → Prop) (zs : List D) (ρ : Rho) (x : XD) (G : GH) (Qd : Rho → GH → Prop), DVs K Z G H zs us ∧ SR K Z G H ρ σ ∧ HR K Z G H ∧ g zs ρ x G Qd ∧
  (∀ ρ' σ' G' H', Fr G H G' H' → HR K Z G' H' → SR K Z G' H' ρ' σ' → wipe σ' vs = wipe σ vs → Qd ρ' G' → Q σ' H') ∧ XOk K Z W G H σ x
end TD
/-! # TD, 2: expressions -/
namespace TD
open PySem L2

theorem PE.imp {X : Cx} {e : Expr} {t t' : TE} (h : PE X e t) (i : ∀ σ H Q, t' σ H Q → t σ H Q) : PE X e t' := ⟨fun pins s σ H Q I q => h.run pins s σ H Q I (i σ H Q q)⟩
theorem PT.imp {X : Cx} {e : Expr} {t t' : TT} (h : PT X e t) (i : ∀ σ H Q, t' σ H Q → t σ H Q) : PT X e t' := ⟨fun pins s σ H Q I q => h.run pins s σ H Q I (i σ H Q q)⟩
theorem PW.imp {X : Cx} {e : Expr} {t t' : TT} (h : PW X e t) (i : ∀ σ H Q, t' σ H Q → t σ H Q) : PW X e t' := ⟨fun w pins s σ H Q I q => h.run w pins s σ H Q I (i σ H Q q)⟩
theorem PA.imp {X : Cx} {es : List Expr} {t t' : TA} (h : PA X es t) (i : ∀ σ H Q, t' σ H Q → t σ H Q) : PA X es t' := ⟨fun pos pins s σ H Q I q => h.run pos pins s σ H Q I (i σ H Q q)⟩
theorem PS.imp {X : Cx} {st : Stmt} {t t' : TS} (h : PS X st t) (i : ∀ E σ H, t' E σ H → t E σ H) : PS X st t' := ⟨fun pins s σ H E I q => h.run pins s σ H E I (i E σ H q)⟩
theorem PSs.imp {X : Cx} {st : List Stmt} {t t' : TS} (h : PSs X st t) (i : ∀ E σ H, t' E σ H → t E σ H) : PSs X st t' := ⟨fun pins s σ H E I q => h.run pins s σ H E I (i E σ H q)⟩
theorem PG.imp {X : Cx} {e : Expr} {t t' : TG} (h : PG X e t) (i : ∀ v σ H Q, t' v σ H Q → t v σ H Q) : PG X e t' := ⟨fun pins s σ H v u Q I r q => h.run pins s σ H v u Q I r (i v σ H Q q)⟩
theorem PGs.imp {X : Cx} {es : List Expr} {t t' : TGs} (h : PGs X es t) (i : ∀ v σ H Q, t' v σ H Q → t v σ H Q) : PGs X es t' := ⟨fun pins s σ H v u Q I r q => h.run pins s σ H v u Q I r (i v σ H Q q)⟩

/-! ### the judgements -/
abbrev PD (X : Cx) (W : WX) (e : Expr) (d : DE) : Prop := PE X e (lowE X.K W d)
abbrev PDT (X : Cx) (W : WX) (e : Expr) (d : DT) : Prop := PT X e (lowT X.K W d)
abbrev PDW (X : Cx) (W : WX) (e : Expr) (d : DT) : Prop := PW X e (lowT X.K W d)
abbrev PDA (X : Cx) (W : WX) (es : List Expr) (d : DA) : Prop := PA X es (lowA X.K W d)
abbrev PDS (X : Cx) (W : WX) (st : Stmt) (d : DS) : Prop := PS X st (lowS X.K W d)
abbrev PDSs (X : Cx) (W : WX) (st : List Stmt) (d : DS) : Prop := PSs X st (lowS X.K W d)
abbrev PDG (X : Cx) (W : WX) (vs : List Nat) (e : Expr) (d : DG) : Prop := PG X e (lowG X.K W vs d)
abbrev PDGs (X : Cx) (W : WX) (vs : List Nat) (e : List Expr) (d : DGs) : Prop := PGs X e (lowGs X.K W vs d)

/-- what follows a value -/
abbrev Ret (K : PySem.W.Frag) (Z : Addr → Prop) (G : GH) (H : Hp) (Qd : DK) (Q : VK) : Prop := ∀ z v G' H', Fr G H G' H' → HR K Z G' H' → DV K Z G' H' z v → Qd z G' → Q v H'
section
variable {K : PySem.W.Frag} {Z : Addr → Prop} {G G1 : GH} {H H1 : Hp} {Qd : DK} {Q : VK} {z : D} {v : V}
theorem Ret.here (c : Ret K Z G H Qd Q) (hr : HR K Z G H) (r : DV K Z G H z v) (q : Qd z G) : Q v H := c z v G H (Fr.refl G H) hr r q
theorem Ret.mono (f : Fr G H G1 H1) (c : Ret K Z G H Qd Q) : Ret K Z G1 H1 Qd Q := fun z v G' H' f2 => c z v G' H' (f.trans f2)
theorem Ret.tup (c : Ret K Z G H Qd Q) (hr : HR K Z G H) {p : Addr} {ds : List D} {vs : List V} (e : H p = none) (r : DVs K Z G H ds vs) (hz : vs.length ≤ sizeLine) (q : Qd (.tup ds) G) : Q (.ref p) (upd H p (.tup vs)) :=
  c (.tup ds) _ G _ (Fr.new e) (hr.new e) (.tup (hr.noZ e) (hr.free e) upd_same hz (r.mono (Fr.new e))) q
theorem Ret.lst (c : Ret K Z G H Qd Q) (hr : HR K Z G H) {p : Addr} {ds : List D} {vs : List V} (e : H p = none) (r : DVs K Z G H ds vs) (hz : vs.length ≤ sizeLine) (q : Qd (.lst ds) G) : Q (.ref p) (upd H p (.lst vs)) :=
  c (.lst ds) _ G _ (Fr.new e) (hr.new e) (.lst (hr.noZ e) (hr.free e) upd_same hz (r.mono (Fr.new e))) q
theorem Ret.lstM (c : Ret K Z G H Qd Q) (hr : HR K Z G H) {p : Addr} {ds : List D} {vs : List V} (e : H p = none) (r : DVs K Z G H ds vs) (hz : vs.length ≤ sizeLine) (q : Qd (.ref p) (gup G p (.lst ds))) : Q (.ref p) (upd H p (.lst vs)) :=
  c (.ref p) _ _ _ (Fr.newT e) (hr.newT (m := .lst ds) e ⟨vs, upd_same, r.mono (Fr.newT e), hz⟩) (.ref p) q
theorem Ret.int (c : Ret K Z G H Qd Q) (hr : HR K Z G H) {i : Int} (q : Qd (.int i) G) : Q (.int i) H := c.here hr (.int i) q
theorem Ret.bl (c : Ret K Z G H Qd Q) (hr : HR K Z G H) {b : Bool} (q : Qd (.bl b) G) : Q (.bl b) H := c.here hr (.bl b) q
end

/-! ### names, constants -/
def dVar (i : Nat) : DE := fun ρ _ G Q => ∃ d, ρ[i]? = some (some d) ∧ Q d G
def dC (d : D) : DE := fun _ _ G Q => Q d G
section
variable {X : Cx} {W : WX}
theorem pd_of_var {i : Nat} {e : Expr} (h : PE X e (tVar i)) : PD X W e (dVar i) := PE.imp h fun σ H Q ⟨Z, ρ, x, G, Qd, sr, hr, ⟨d, e1, q⟩, c, _⟩ => by
  obtain ⟨v, e2, r⟩ := sr.at_ i d e1
  exact ⟨v, e2, Ret.here c hr r q⟩
theorem pd_var (i : Nat) {x : Str} {pos : Pos} (hN : X.N[i]? = some x := by rfl) (hv : Vis X.env.scope x := by first | exact Or.inl rfl | exact Or.inr (Or.inl rfl) | exact Or.inr (Or.inr rfl)) (hd : (x == ("__debug__" : Str)) = false := by decide)
    (hcd : (x == ("__classdict__" : Str)) = false := by decide) : PD X W (.Name x pos) (dVar i) := pd_of_var (pe_var hN hv hd hcd)
theorem pd_of_c {e : Expr} {z : D} {v : V} (h : PE X e (tC v)) (r : ∀ Z G H, DV X.K Z G H z v) : PD X W e (dC z) := PE.imp h fun σ H Q ⟨Z, ρ, x, G, Qd, sr, hr, q, c, _⟩ => Ret.here c hr (r Z G H) q
theorem pd_int {i j pos} : PD X W (.Constant (.int i) j pos) (dC (.int i)) := pd_of_c pe_int fun _ _ _ => .int _
theorem pd_bl {b j pos} : PD X W (.Constant (.bool b) j pos) (dC (.bl b)) := pd_of_c pe_bl fun _ _ _ => .bl _
theorem pd_non {j pos} : PD X W (.Constant .none j pos) (dC .non) := pd_of_c pe_non fun _ _ _ => .non
theorem pd_str {x j pos} : PD X W (.Constant (.str x) j pos) (dC (.str x)) := pd_of_c pe_str fun _ _ _ => .str _
/-- a module's int -/
theorem pd_gint {x : Str} {i : Int} {t : Tok} {pos : Pos} (hm : X.mg x = some (.int i t)) (hg : Gl X x := by rfl) (hd : (x == ("__debug__" : Str)) = false := by decide) : PD X W (.Name x pos) (dC (.int i)) := pd_of_c (pe_glob (v := .int i) hg hm ⟨t, rfl⟩ hd) fun _ _ _ => .int _
theorem pd_gstr {x : Str} {i : Str} {t : Tok} {pos : Pos} (hm : X.mg x = some (.str i t)) (hg : Gl X x := by rfl) (hd : (x == ("__debug__" : Str)) = false := by decide) : PD X W (.Name x pos) (dC (.str i)) := pd_of_c (pe_glob (v := .str i) hg hm ⟨t, rfl⟩ hd) fun _ _ _ => .str _
/-- a module's def or class as a value -/
theorem pd_gref {x : Str} {a : Addr} {pos : Pos} (hm : X.mg x = some (.ref a)) (hg : Gl X x := by rfl) (hd : (x == ("__debug__" : Str)) = false := by decide) : PD X W (.Name x pos) (dC (.ref a)) := pd_of_c (pe_glob (v := .ref a) hg hm rfl hd) fun _ _ _ => .ref _
/-- a built-in class as a value -/
theorem pd_ty {x : Str} {n : String} {pos : Pos} (hm : X.mg x = none) (hv : bootBuiltins x = some (.type n) := by decide +kernel) (hg : Gl X x := by rfl) (hn : x ≠ "__name__" := by decide) (hd : (x == ("__debug__" : Str)) = false := by decide) : PD X W (.Name x pos) (dC (.ty n)) :=
  pd_of_c (pe_bltn (v := .ty n) hg hm hv rfl hn hd) fun _ _ _ => .ty _
end

/-! ### operators -/
abbrev RD2 := D → D → GH → DK → Prop
def OpL (K : PySem.W.Frag) (r : R2) (rd : RD2) : Prop := ∀ Z z y vz vy G H Qd Q, HR K Z G H → DV K Z G H z vz → DV K Z G H y vy → rd z y G Qd → Ret K Z G H Qd Q → r vz vy H Q
def dOp (r : RD2) (a b : DE) : DE := fun ρ x G Q => a ρ x G fun z G1 => b ρ x G1 fun y G2 => r z y G2 Q
section
variable {X : Cx} {W : WX} {a b c : Expr} {da db dc : DE} {pos : Pos}
/-- two parts, then a step on values -/
theorem low_op {K : PySem.W.Frag} {r : R2} {rd : RD2} (hl : OpL K r rd) : ∀ σ H Q, lowE K W (dOp rd da db) σ H Q → tOp r (lowE K W da) (lowE K W db) σ H Q := fun σ H Q ⟨Z, ρ, x, G, Qd, sr, hr, h, c, xo⟩ =>
  ⟨Z, ρ, x, G, _, sr, hr, h, fun z v G1 H1 f1 r1 d1 q1 => ⟨Z, ρ, x, G1, _, sr.mono f1, r1, q1, fun y u G2 H2 f2 r2 d2 q2 => hl Z z y v u G2 H2 Qd Q r2 (d1.mono f2) d2 q2 (Ret.mono (f1.trans f2) c), xo.mono f1⟩, xo⟩
theorem pd_op {op : Operator} {r : R2} {rd : RD2} (ho : OpR X (binaryOp op) r) (hl : OpL X.K r rd) (ha : PD X W a da) (hb : PD X W b db) : PD X W (.BinOp a op b pos) (dOp rd da db) :=
  PE.imp (pe_op ho ha hb) (low_op hl)
theorem pd_cmp {op : CmpOp} {r : R2} {rd : RD2} (ho : OpR X (compareOp op) r) (hl : OpL X.K r rd) (ha : PD X W a da) (hb : PD X W b db) (hm : behindInMarks op b = false := by exact nomark _) : PD X W (.Compare a [op] [b] pos) (dOp rd da db) :=
  PE.imp (pe_cmpR ho ha hb hm) (low_op hl)
/-- as a test -/
def dTest (d : DE) : DT := fun ρ x G Q => d ρ x G fun z G1 => ∃ k, z = .bl k ∧ Q k G1
theorem low_test {K : PySem.W.Frag} {d : DE} {t : TE} (h : ∀ σ H Q, lowE K W d σ H Q → t σ H Q) : ∀ σ H Q, lowT K W (dTest d) σ H Q → tTest t σ H Q := fun σ H Q ⟨Z, ρ, x, G, Qd, sr, hr, q, c, xo⟩ =>
  h σ H _ ⟨Z, ρ, x, G, _, sr, hr, q, fun z v G1 H1 f1 r1 d1 ⟨k, e, q⟩ => by
    subst e
    cases d1
    exact ⟨k, rfl, c k G1 H1 f1 r1 q⟩, xo⟩
theorem pdt_cmp {op : CmpOp} {r : R2} {rd : RD2} (ho : OpR X (compareOp op) r) (hl : OpL X.K r rd) (ha : PD X W a da) (hb : PD X W b db) (hm : behindInMarks op b = false := by exact nomark _) : PDT X W (.Compare a [op] [b] pos) (dTest (dOp rd da db)) :=
  PT.imp (pt_cmpR ho ha hb hm) (low_test (low_op hl))
theorem pdt_val {e : Expr} {d : DE} (h : PD X W e d) (he : ∀ whole, isTrue e X.env whole = (do let v ← whole; standAt e.pos; holding [v] (truthy v)) := by intro _; rfl) : PDT X W e (dTest d) :=
  PT.imp (pt_val h he) (low_test (fun _ _ _ q => q))
/-- a op b op' c -/
def dChain (r r' : RD2) (a b c : DE) : DE := fun ρ x G Q => a ρ x G fun z G1 => b ρ x G1 fun y G2 => r z y G2 fun w G3 => ∃ k, w = .bl k ∧ (if k = true then c ρ x G3 (fun u G4 => r' y u G4 Q) else Q (.bl false) G3)
theorem low_chain {K : PySem.W.Frag} {r r' : R2} {rd rd' : RD2} (hl : OpL K r rd) (hl' : OpL K r' rd') : ∀ σ H Q, lowE K W (dChain rd rd' da db dc) σ H Q → tChain r r' (lowE K W da) (lowE K W db) (lowE K W dc) σ H Q := fun σ H Q ⟨Z, ρ, x, G, Qd, sr, hr, h, c, xo⟩ =>
    ⟨Z, ρ, x, G, _, sr, hr, h, fun z v G1 H1 f1 r1 d1 q1 => ⟨Z, ρ, x, G1, _, sr.mono f1, r1, q1, fun y u G2 H2 f2 r2 d2 q2 => hl Z z y v u G2 H2 _ _ r2 (d1.mono f2) d2 q2 fun w vw G3 H3 f3 r3 d3 ⟨k, e, q3⟩ => by
      subst e
      cases d3
      refine ⟨k, rfl, ?_⟩
      cases k with
      | false => exact c _ _ G3 H3 (f1.trans (f2.trans f3)) r3 (.bl false) q3
      | true => exact ⟨Z, ρ, x, G3, _, sr.mono (f1.trans (f2.trans f3)), r3, q3, fun y2 u2 G4 H4 f4 r4 d4 q4 => hl' Z y y2 u u2 G4 H4 Qd Q r4 (d2.mono (f3.trans f4)) d4 q4 (Ret.mono (f1.trans (f2.trans (f3.trans f4))) c), xo.mono (f1.trans (f2.trans f3))⟩, xo.mono f1⟩, xo⟩
theorem pd_chain {op op' : CmpOp} {r r' : R2} {rd rd' : RD2} (ho : OpR X (compareOp op) r) (hl : OpL X.K r rd) (ho' : OpR X (compareOp op') r') (hl' : OpL X.K r' rd') (ha : PD X W a da) (hb : PD X W b db) (hc : PD X W c dc)
    (hm : lastMarks [op, op'] [b, c] = false := by with_unfolding_all rfl) : PD X W (.Compare a [op, op'] [b, c] pos) (dChain rd rd' da db dc) := PE.imp (pe_chain ho ho' ha hb hc hm) (low_chain hl hl')
theorem pdt_chain {op op' : CmpOp} {r r' : R2} {rd rd' : RD2} (ho : OpR X (compareOp op) r) (hl : OpL X.K r rd) (ho' : OpR X (compareOp op') r') (hl' : OpL X.K r' rd') (ha : PD X W a da) (hb : PD X W b db) (hc : PD X W c dc)
    (hm : lastMarks [op, op'] [b, c] = false := by with_unfolding_all rfl) : PDT X W (.Compare a [op, op'] [b, c] pos) (dTest (dChain rd rd' da db dc)) := PT.imp (pt_chain ho ho' ha hb hc hm) (low_test (low_chain hl hl'))
end

/-! ### the operators on values -/
def rdInt (C : Int → Int → Prop) (g : Int → Int → D) : RD2 := fun z y G Q => ∃ i j, z = .int i ∧ y = .int j ∧ C i j ∧ Q (g i j) G
theorem opl_I0 {K : PySem.W.Frag} {g : Int → Int → V} {gd : Int → Int → D} (h : ∀ i j Z G H, DV K Z G H (gd i j) (g i j)) : OpL K (rI0 g) (rdInt (fun _ _ => True) gd) := by
  rintro Z z y vz vy G H Qd Q hr dz dy ⟨i, j, rfl, rfl, _, q⟩ c
  cases dz; cases dy
  exact ⟨i, j, rfl, rfl, Ret.here c hr (h i j Z G H) q⟩
theorem opl_I {K : PySem.W.Frag} {C : Int → Int → Prop} {g : Int → Int → V} {gd : Int → Int → D} (h : ∀ i j Z G H, DV K Z G H (gd i j) (g i j)) : OpL K (rI C g) (rdInt C gd) := by
  rintro Z z y vz vy G H Qd Q hr dz dy ⟨i, j, rfl, rfl, hc, q⟩ c
  cases dz; cases dy
  exact ⟨i, j, rfl, rfl, hc, Ret.here c hr (h i j Z G H) q⟩
/-- + of ints, texts, tuples, lists -/
def rdAdd : RD2 := fun z y G Q => match z, y with
  | .int i, .int j => Q (.int (i + j)) G
  | .str a, .str b => a.length + b.length ≤ sizeLine ∧ Q (.str (a ++ b)) G
  | .tup a, .tup b => a.length + b.length ≤ sizeLine ∧ Q (.tup (a ++ b)) G
  | .lst a, .lst b => a.length + b.length ≤ sizeLine ∧ Q (.lst (a ++ b)) G
  | _, _ => False
def rAddAll (K : PySem.W.Frag) : R2 := fun x y H Q => (rI0 fun i j => V.int (i + j)) x y H Q ∨ (∃ i j, x = .str i ∧ y = .str j ∧ i.length + j.length ≤ sizeLine ∧ Q (.str (i ++ j)) H) ∨ rCatA K x y H Q ∨ rCat x y H Q
theorem opr_add {X : Cx} : OpR X (binaryOp .Add) (rAddAll X.K) := op_add.or (op_add_str.or (op_catA.or op_cat))
theorem opl_add {K : PySem.W.Frag} : OpL K (rAddAll K) rdAdd := by
  intro Z z y vz vy G H Qd Q hr dz dy h c
  unfold rdAdd at h
  split at h
  · cases dz; cases dy
    exact .inl ⟨_, _, rfl, rfl, Ret.int c hr h⟩
  · cases dz; cases dy
    exact .inr (.inl ⟨_, _, rfl, rfl, h.1, Ret.here c hr (.str _) h.2⟩)
  · cases dz with
    | tup n1 g1 h1 z1 r1 =>
      cases dy with
      | tup n2 g2 h2 z2 r2 =>
        rename_i a vs1 b vs2
        have l1 := r1.length
        have l2 := r2.length
        refine .inr (.inr (.inl ⟨a, b, vs1, vs2, rfl, rfl, SqT.of h1, SqT.of h2, by omega, fun e => ?_, fun _ e => ?_, fun _ _ p hp => ?_⟩))
        · subst e
          cases r1
          exact Ret.here c hr (.tup n2 g2 h2 z2 r2) h.2
        · subst e
          cases r2
          refine Ret.here c hr ?_ h.2
          rw [List.append_nil]
          exact .tup n1 g1 h1 z1 r1
        · exact Ret.tup c hr hp (r1.append r2) (by rw [List.length_append]; omega) h.2
  · cases dz with
    | lst n1 g1 h1 z1 r1 =>
      cases dy with
      | lst n2 g2 h2 z2 r2 =>
        rename_i a vs1 b vs2
        have l1 := r1.length
        have l2 := r2.length
        exact .inr (.inr (.inr ⟨a, b, vs1, vs2, rfl, rfl, h1, h2, by omega, fun p hp => Ret.lst c hr hp (r1.append r2) (by rw [List.length_append]; omega) h.2⟩))
  · exact h.elim
def rdSub : RD2 := rdInt (fun _ _ => True) fun i j => .int (i - j)
theorem opl_sub {K : PySem.W.Frag} : OpL K (rI0 fun i j => V.int (i - j)) rdSub := opl_I0 fun _ _ _ _ _ => .int _
/-- * of ints; of a list and an int -/
def rdMul : RD2 := fun z y G Q => match z, y with
  | .int i, .int j => CMul i j ∧ Q (.int (i * j)) G
  | .lst a, .int k => -(2 ^ 63) ≤ k ∧ k < 2 ^ 63 ∧ a.length * k.toNat ≤ sizeLine ∧ Q (.lst (List.replicate k.toNat a).flatten) G
  | .tup a, .int k => a ≠ [] ∧ 2 ≤ k ∧ k ≤ 1000 ∧ a.length ≤ 1000 ∧ Q (.tup (List.replicate k.toNat a).flatten) G
  | _, _ => False
def rMulAll (K : PySem.W.Frag) : R2 := fun x y H Q => (rI CMul fun i j => V.int (i * j)) x y H Q ∨ rRep x y H Q ∨ rRepT K x y H Q
theorem opr_mul {X : Cx} : OpR X (binaryOp .Mult) (rMulAll X.K) := op_mul.or (op_rep.or op_repT)
theorem flat_len {α : Type} (k : Nat) (l : List α) : (List.replicate k l).flatten.length = k * l.length := by
  induction k with
  | zero => simp
  | succ k ih => rw [List.replicate_succ, List.flatten_cons, List.length_append, ih, Nat.succ_mul, Nat.add_comm]
theorem opl_mul {K : PySem.W.Frag} : OpL K (rMulAll K) rdMul := by
  intro Z z y vz vy G H Qd Q hr dz dy h c
  unfold rdMul at h
  split at h
  · cases dz; cases dy
    exact .inl ⟨_, _, rfl, rfl, h.1, Ret.int c hr h.2⟩
  · cases dy
    cases dz with
    | lst n1 g1 h1 z1 r1 =>
      rename_i k a vs
      have l1 := r1.length
      obtain ⟨h1', h2', h3', q⟩ := h
      exact .inr (.inl ⟨a, k, vs, rfl, rfl, h1, h1', h2', by rw [← l1]; exact h3', fun p hp => Ret.lst c hr hp (r1.rep _) (by rw [flat_len, ← l1, Nat.mul_comm]; exact h3') q⟩)
  · cases dy
    cases dz with
    | tup n1 g1 h1 z1 r1 =>
      rename_i k a vs
      have l1 := r1.length
      obtain ⟨h0', h1', h2', h3', q⟩ := h
      refine .inr (.inr ⟨a, k, vs, rfl, rfl, SqT.of h1, fun e => h0' ?_, h1', h2', by rw [← l1]; exact h3', fun p hp => Ret.tup c hr hp (r1.rep _) ?_ q⟩)
      · subst e; cases r1; rfl
      · have hk : k.toNat ≤ 1000 := by omega
        have hv : vs.length ≤ 1000 := by omega
        rw [flat_len]
        exact Nat.le_trans (Nat.mul_le_mul hk hv) (by decide)
  · exact h.elim
def rdLt : RD2 := rdInt (fun _ _ => True) fun i j => .bl (decide (i < j))
def rdLe : RD2 := rdInt (fun _ _ => True) fun i j => .bl (decide (i ≤ j))
def rdGt : RD2 := rdInt (fun _ _ => True) fun i j => .bl (decide (j < i))
def rdGe : RD2 := rdInt (fun _ _ => True) fun i j => .bl (decide (j ≤ i))
theorem opl_lt {K : PySem.W.Frag} : OpL K (rI0 fun i j => V.bl (decide (i < j))) rdLt := opl_I0 fun _ _ _ _ _ => .bl _
theorem opl_le {K : PySem.W.Frag} : OpL K (rI0 fun i j => V.bl (decide (i ≤ j))) rdLe := opl_I0 fun _ _ _ _ _ => .bl _
theorem opl_gt {K : PySem.W.Frag} : OpL K (rI0 fun i j => V.bl (decide (j < i))) rdGt := opl_I0 fun _ _ _ _ _ => .bl _
theorem opl_ge {K : PySem.W.Frag} : OpL K (rI0 fun i j => V.bl (decide (j ≤ i))) rdGe := opl_I0 fun _ _ _ _ _ => .bl _
def rdFdiv : RD2 := rdInt CDiv fun i j => .int (i / j)
def rdMod : RD2 := rdInt (fun _ j => 0 < j) fun i j => .int (i % j)
def rdPow : RD2 := rdInt CPow fun i j => .int (i ^ j.toNat)
theorem opl_fdiv {K : PySem.W.Frag} : OpL K (rI CDiv fun i j => V.int (i / j)) rdFdiv := opl_I fun _ _ _ _ _ => .int _
theorem opl_mod {K : PySem.W.Frag} : OpL K (rI (fun _ j => 0 < j) fun i j => V.int (i % j)) rdMod := opl_I fun _ _ _ _ _ => .int _
theorem opl_pow {K : PySem.W.Frag} : OpL K (rI CPow fun i j => V.int (i ^ j.toNat)) rdPow := opl_I fun _ _ _ _ _ => .int _
/-- is None, is not None -/
def isNon : D → Bool
  | .non => true
  | _ => false
def rdIsN : RD2 := fun z y G Q => y = .non ∧ Q (.bl (isNon z)) G
def rdNotN : RD2 := fun z y G Q => y = .non ∧ Q (.bl (!isNon z)) G
theorem isNon_dv {K : PySem.W.Frag} {Z : Addr → Prop} {G : GH} {H : Hp} {z : D} {v : V} (r : DV K Z G H z v) : isNon z = decide (v = .non) := by
  cases r <;> rfl
theorem opl_isN {K : PySem.W.Frag} : OpL K (fun x y H Q => y = .non ∧ Q (.bl (decide (x = .non))) H) rdIsN := by
  rintro Z z y vz vy G H Qd Q hr dz dy ⟨rfl, q⟩ c
  cases dy
  rw [isNon_dv dz] at q
  exact ⟨rfl, Ret.bl c hr q⟩
theorem opl_notN {K : PySem.W.Frag} : OpL K (fun x y H Q => y = .non ∧ Q (.bl (!decide (x = .non))) H) rdNotN := by
  rintro Z z y vz vy G H Qd Q hr dz dy ⟨rfl, q⟩ c
  cases dy
  rw [isNon_dv dz] at q
  exact ⟨rfl, Ret.bl c hr q⟩
end TD
/-! # TD, 3: and, or, not, displays, subscripts, slices, ==, calls -/
namespace TD
open PySem L2

/-! ### and, or, not, if-else -/
def dAndV (a b : DE) : DE := fun ρ x G Q => a ρ x G fun z G1 => ∃ k, z = .bl k ∧ if k = true then b ρ x G1 Q else Q (.bl false) G1
def dOrV (a b : DE) : DE := fun ρ x G Q => a ρ x G fun z G1 => ∃ k, z = .bl k ∧ if k = true then Q (.bl true) G1 else b ρ x G1 Q
def dNotV (a : DE) : DE := fun ρ x G Q => a ρ x G fun z G1 => ∃ k, z = .bl k ∧ Q (.bl (!k)) G1
def dAnd (a b : DT) : DT := fun ρ x G Q => a ρ x G fun k G1 => if k = true then b ρ x G1 Q else Q false G1
def dOr (a b : DT) : DT := fun ρ x G Q => a ρ x G fun k G1 => if k = true then Q true G1 else b ρ x G1 Q
def dNot (a : DT) : DT := fun ρ x G Q => a ρ x G fun k G1 => Q (!k) G1
def dIf (t : DT) (a b : DE) : DE := fun ρ x G Q => t ρ x G fun k G1 => if k = true then a ρ x G1 Q else b ρ x G1 Q
section
variable {X : Cx} {W : WX} {a b c e : Expr} {es rest : List Expr} {da db de : DE} {ta tb : DT} {pos : Pos}
theorem pd_one {op} (h : PD X W a da) : PD X W (.BoolOp op [a] pos) da := pe_one h
theorem pd_and (ha : PD X W a da) (hb : PD X W (.BoolOp .And (b :: rest) pos) db) : PD X W (.BoolOp .And (a :: b :: rest) pos) (dAndV da db) :=
  PE.imp (pe_and ha hb) fun σ H Q ⟨Z, ρ, x, G, Qd, sr, hr, h, c, xo⟩ => ⟨Z, ρ, x, G, _, sr, hr, h, fun z v G1 H1 f1 r1 d1 ⟨k, e, q⟩ => by
    subst e
    cases d1
    refine ⟨k, rfl, ?_⟩
    cases k with
    | true => exact ⟨Z, ρ, x, G1, Qd, sr.mono f1, r1, q, Ret.mono f1 c, xo.mono f1⟩
    | false => exact c _ _ G1 H1 f1 r1 (.bl false) q, xo⟩
theorem pd_or (ha : PD X W a da) (hb : PD X W (.BoolOp .Or (b :: rest) pos) db) : PD X W (.BoolOp .Or (a :: b :: rest) pos) (dOrV da db) :=
  PE.imp (pe_or ha hb) fun σ H Q ⟨Z, ρ, x, G, Qd, sr, hr, h, c, xo⟩ => ⟨Z, ρ, x, G, _, sr, hr, h, fun z v G1 H1 f1 r1 d1 ⟨k, e, q⟩ => by
    subst e
    cases d1
    refine ⟨k, rfl, ?_⟩
    cases k with
    | true => exact c _ _ G1 H1 f1 r1 (.bl true) q
    | false => exact ⟨Z, ρ, x, G1, Qd, sr.mono f1, r1, q, Ret.mono f1 c, xo.mono f1⟩, xo⟩
theorem pd_not (ha : PD X W a da) : PD X W (.UnaryOp .Not a pos) (dNotV da) :=
  PE.imp (pe_not ha) fun σ H Q ⟨Z, ρ, x, G, Qd, sr, hr, h, c, xo⟩ => ⟨Z, ρ, x, G, _, sr, hr, h, fun z v G1 H1 f1 r1 d1 ⟨k, e, q⟩ => by
    subst e
    cases d1
    exact ⟨k, rfl, c _ _ G1 H1 f1 r1 (.bl _) q⟩, xo⟩
theorem pdw_and1 (ha : PDT X W a ta) : PDW X W (.BoolOp .And [a] pos) ta := pw_and1 ha
theorem pdw_or1 (ha : PDT X W a ta) : PDW X W (.BoolOp .Or [a] pos) ta := pw_or1 ha
theorem pdw_and (ha : PDT X W a ta) (hb : PDW X W (.BoolOp .And (b :: rest) pos) tb) : PDW X W (.BoolOp .And (a :: b :: rest) pos) (dAnd ta tb) :=
  PW.imp (pw_and ha hb) fun σ H Q ⟨Z, ρ, x, G, Qd, sr, hr, h, c, xo⟩ => ⟨Z, ρ, x, G, _, sr, hr, h, fun k G1 H1 f1 r1 q => by
    cases k with
    | true => exact ⟨Z, ρ, x, G1, Qd, sr.mono f1, r1, q, fun b G2 H2 f2 => c b G2 H2 (f1.trans f2), xo.mono f1⟩
    | false => exact c _ G1 H1 f1 r1 q, xo⟩
theorem pdw_or (ha : PDT X W a ta) (hb : PDW X W (.BoolOp .Or (b :: rest) pos) tb) : PDW X W (.BoolOp .Or (a :: b :: rest) pos) (dOr ta tb) :=
  PW.imp (pw_or ha hb) fun σ H Q ⟨Z, ρ, x, G, Qd, sr, hr, h, c, xo⟩ => ⟨Z, ρ, x, G, _, sr, hr, h, fun k G1 H1 f1 r1 q => by
    cases k with
    | true => exact c _ G1 H1 f1 r1 q
    | false => exact ⟨Z, ρ, x, G1, Qd, sr.mono f1, r1, q, fun b G2 H2 f2 => c b G2 H2 (f1.trans f2), xo.mono f1⟩, xo⟩
theorem pdt_w (h : PDW X W a ta) : PDT X W a ta := PW.pt h
theorem pdt_not (ha : PDT X W a ta) : PDT X W (.UnaryOp .Not a pos) (dNot ta) :=
  PT.imp (pt_not ha) fun σ H Q ⟨Z, ρ, x, G, Qd, sr, hr, h, c, xo⟩ => ⟨Z, ρ, x, G, _, sr, hr, h, fun k G1 H1 f1 r1 q => c _ G1 H1 f1 r1 q, xo⟩
theorem pd_ifExp (hc : PDT X W c ta) (ha : PD X W a da) (hb : PD X W b db) : PD X W (.IfExp c a b pos) (dIf ta da db) :=
  PE.imp (pe_ifExp hc ha hb) fun σ H Q ⟨Z, ρ, x, G, Qd, sr, hr, h, c, xo⟩ => ⟨Z, ρ, x, G, _, sr, hr, h, fun k G1 H1 f1 r1 q => by
    cases k with
    | true => exact ⟨Z, ρ, x, G1, Qd, sr.mono f1, r1, q, Ret.mono f1 c, xo.mono f1⟩
    | false => exact ⟨Z, ρ, x, G1, Qd, sr.mono f1, r1, q, Ret.mono f1 c, xo.mono f1⟩, xo⟩

/-! ### argument lists, displays -/
def dNil : DA := fun _ _ G Q => Q [] G
def dCons (a : DE) (t : DA) : DA := fun ρ x G Q => a ρ x G fun z G1 => t ρ x G1 fun zs G2 => Q (z :: zs) G2
theorem pda_nil : PDA X W [] dNil := PA.imp pa_nil fun σ H Q ⟨Z, ρ, x, G, Qd, sr, hr, h, c, xo⟩ => c [] [] G H (Fr.refl G H) hr .nil h
theorem low_cons {K : PySem.W.Frag} {t : DA} : ∀ σ H Q, lowA K W (dCons da t) σ H Q → tCons (lowE K W da) (lowA K W t) σ H Q := fun σ H Q ⟨Z, ρ, x, G, Qd, sr, hr, h, c, xo⟩ =>
  ⟨Z, ρ, x, G, _, sr, hr, h, fun z v G1 H1 f1 r1 d1 q1 => ⟨Z, ρ, x, G1, _, sr.mono f1, r1, q1, fun zs vs G2 H2 f2 r2 d2 q2 => c (z :: zs) (v :: vs) G2 H2 (f1.trans f2) r2 (.cons (d1.mono f2) d2) q2, xo.mono f1⟩, xo⟩
theorem pda_cons {t : DA} (ha : PD X W a da) (hr : PDA X W es t) (hs : starEach (a :: es) X.env = (false, eval a X.env) :: starEach es X.env := by rfl) : PDA X W (a :: es) (dCons da t) := PA.imp (pa_cons ha hr hs) low_cons
/-- *e, a tuple or a list -/
def dStar (a : DE) (t : DA) : DA := fun ρ x G Q => a ρ x G fun z G1 => match z with
  | .tup xs => t ρ x G1 fun zs G2 => Q (xs ++ zs) G2
  | .lst xs => t ρ x G1 fun zs G2 => Q (xs ++ zs) G2
  | _ => False
theorem pda_star {t : DA} {p : Pos} (ha : PD X W a da) (hr : PDA X W es t) (hs : starEach (.Starred a p :: es) X.env = (true, eval a X.env) :: starEach es X.env := by rfl) : PDA X W (.Starred a p :: es) (dStar da t) :=
  PA.imp (StX.pa_star ha hr hs) fun σ H Q ⟨Z, ρ, x, G, Qd, sr, hr, h, c, xo⟩ => ⟨Z, ρ, x, G, _, sr, hr, h, fun z v G1 H1 f1 r1 d1 q1 => by
    cases d1 with
    | tup n1 g1 h1 z1 r2 => exact ⟨_, _, rfl, .inl (SqT.of h1), Z, ρ, x, G1, _, sr.mono f1, r1, q1, fun zs vs G2 H2 f2 r3 d2 q2 => c _ _ G2 H2 (f1.trans f2) r3 ((r2.mono f2).append d2) q2, xo.mono f1⟩
    | lst n1 g1 h1 z1 r2 => exact ⟨_, _, rfl, .inr (SqL.of h1), Z, ρ, x, G1, _, sr.mono f1, r1, q1, fun zs vs G2 H2 f2 r3 d2 q2 => c _ _ G2 H2 (f1.trans f2) r3 ((r2.mono f2).append d2) q2, xo.mono f1⟩
    | _ => exact q1.elim, xo⟩
def dTup (t : DA) : DE := fun ρ x G Q => t ρ x G fun zs G1 => zs.length ≤ sizeLine ∧ Q (.tup zs) G1
def dLst (t : DA) : DE := fun ρ x G Q => t ρ x G fun zs G1 => zs.length ≤ sizeLine ∧ Q (.lst zs) G1
/-- a list that is going to change -/
def dLstM (t : DA) : DE := fun ρ x G Q => t ρ x G fun zs G1 => zs.length ≤ sizeLine ∧ ∀ p, G1 p = none → Q (.ref p) (gup G1 p (.lst zs))
theorem pd_tup {t : DA} {k} (h : PDA X W es t) : PD X W (.Tuple es k pos) (dTup t) := PE.imp (pe_tup h) fun σ H Q ⟨Z, ρ, x, G, Qd, sr, hr, h, c, xo⟩ =>
  ⟨Z, ρ, x, G, _, sr, hr, h, fun zs vs G1 H1 f1 r1 d1 ⟨hz, q⟩ => ⟨by rw [← d1.length]; exact hz, fun p hp => Ret.tup (Ret.mono f1 c) r1 hp d1 (by rw [← d1.length]; exact hz) q⟩, xo⟩
theorem pd_lst {t : DA} (h : PDA X W es t) : PD X W (.List es pos) (dLst t) := PE.imp (pe_lst h) fun σ H Q ⟨Z, ρ, x, G, Qd, sr, hr, h, c, xo⟩ =>
  ⟨Z, ρ, x, G, _, sr, hr, h, fun zs vs G1 H1 f1 r1 d1 ⟨hz, q⟩ => ⟨by rw [← d1.length]; exact hz, fun p hp => Ret.lst (Ret.mono f1 c) r1 hp d1 (by rw [← d1.length]; exact hz) q⟩, xo⟩
theorem pd_lstM {t : DA} (h : PDA X W es t) : PD X W (.List es pos) (dLstM t) := PE.imp (pe_lst h) fun σ H Q ⟨Z, ρ, x, G, Qd, sr, hr, h, c, xo⟩ =>
  ⟨Z, ρ, x, G, _, sr, hr, h, fun zs vs G1 H1 f1 r1 d1 ⟨hz, q⟩ => ⟨by rw [← d1.length]; exact hz, fun p hp => Ret.lstM (Ret.mono f1 c) r1 hp d1 (by rw [← d1.length]; exact hz) (q p (r1.free hp))⟩, xo⟩
end

/-! ### subscripts -/
theorem atI_map {α β : Type} (f : α → β) (xs : List α) (i : Int) : atI (xs.map f) i = (atI xs i).map f := by
  unfold atI
  rw [List.length_map]
  cases ixN xs.length i with
  | none => rfl
  | some j => simp
theorem DVs.atI {K : PySem.W.Frag} {Z : Addr → Prop} {G : GH} {H : Hp} {ds : List D} {vs : List V} {i : Int} {d : D} (r : DVs K Z G H ds vs) (h : L2.atI ds i = some d) : ∃ v, L2.atI vs i = some v ∧ DV K Z G H d v := by
  unfold L2.atI at h ⊢
  rw [← r.length]
  cases e : ixN ds.length i with
  | none => rw [e] at h; cases h
  | some j =>
    rw [e] at h
    exact r.get (show ds[j]? = some d from h)
def rdIx : RD2 := fun z y G Q => match z, y with
  | .tup xs, .int i => ∃ d, atI xs i = some d ∧ Q d G
  | .lst xs, .int i => ∃ d, atI xs i = some d ∧ Q d G
  | .scr ns, .int i => ∃ d, atI ns i = some d ∧ Q (.int d) G
  | .ref a, .int i => ∃ xs d, G a = some (.lst xs) ∧ atI xs i = some d ∧ Q d G
  | .str w, .int i => w.length ≤ sizeLine ∧ ∃ c, atI w.cps.toList i = some c ∧ Q (.str ⟨#[c]⟩) G
  | _, _ => False
theorem opl_ix {K : PySem.W.Frag} : OpL K (rIx K) rdIx := by
  intro Z z y vz vy G H Qd Q hr dz dy h c
  unfold rdIx at h
  split at h
  · cases dy
    cases dz with
    | tup n1 g1 h1 z1 r1 =>
      obtain ⟨d, e, q⟩ := h
      obtain ⟨v, e2, r2⟩ := r1.atI e
      exact .inr (.inl ⟨_, _, _, v, rfl, rfl, SqT.of h1, e2, Ret.here c hr r2 q⟩)
  · cases dy
    cases dz with
    | lst n1 g1 h1 z1 r1 =>
      obtain ⟨d, e, q⟩ := h
      obtain ⟨v, e2, r2⟩ := r1.atI e
      exact .inl ⟨_, _, _, v, rfl, rfl, SqL.of h1, e2, Ret.here c hr r2 q⟩
  · cases dy
    cases dz with
    | scr h1 z1 =>
      obtain ⟨d, e, q⟩ := h
      exact .inl ⟨_, _, _, .int d, rfl, rfl, h1.seq, by rw [atI_map, e] <;> rfl, Ret.int c hr q⟩
  · cases dy
    cases dz
    obtain ⟨xs, d, g, e, q⟩ := h
    obtain ⟨vs, h1, r1, _⟩ := hr.at_ _ _ g
    obtain ⟨v, e2, r2⟩ := r1.atI e
    exact .inl ⟨_, _, _, v, rfl, rfl, SqL.of h1, e2, Ret.here c hr r2 q⟩
  · cases dy
    cases dz
    obtain ⟨hz, ch, e, q⟩ := h
    exact .inr (.inr ⟨_, _, ch, rfl, rfl, hz, e, Ret.here c hr (.str _) q⟩)
  · exact h.elim
section
variable {X : Cx} {W : WX} {a b c e : Expr} {da db de : DE} {pos : Pos}
theorem pd_ix (ha : PD X W a da) (hb : PD X W b db) (hs : PlainIx b := by exact fun _ _ => rfl) : PD X W (.Subscript a b pos) (dOp rdIx da db) := PE.imp (pe_ix ix_seq ha hb hs) (low_op opl_ix)
end
/-! ### slices -/
def cutX {α : Type} (xs : List α) (lo hi : Option Int) : List α := (xs.drop (HT.sIx xs.length 0 lo)).take (HT.sIx xs.length xs.length hi - HT.sIx xs.length 0 lo)
theorem cutX_map {α β : Type} (f : α → β) (xs : List α) (lo hi : Option Int) : cutX (xs.map f) lo hi = (cutX xs lo hi).map f := by
  unfold cutX
  rw [List.length_map, List.map_take, List.map_drop]
theorem DVs.cut {K : PySem.W.Frag} {Z : Addr → Prop} {G : GH} {H : Hp} {ds : List D} {vs : List V} (r : DVs K Z G H ds vs) (lo hi : Option Int) : DVs K Z G H (cutX ds lo hi) (cutV vs lo hi) := by
  unfold cutX cutV
  rw [← r.length]
  exact (r.drop _).take _
theorem cutX_whole {α : Type} {xs : List α} {lo hi : Option Int} (h1 : HT.sIx xs.length 0 lo = 0) (h2 : HT.sIx xs.length xs.length hi = xs.length) : cutX xs lo hi = xs := by
  unfold cutX
  rw [h1, h2, List.drop_zero, Nat.sub_zero, List.take_length]
abbrev DO := Rho → XD → GH → (Option Int → GH → Prop) → Prop
def lowO (K : PySem.W.Frag) (W : WX) (d : DO) : TO := fun σ H Q => ∃ (Z : Addr → Prop) (ρ : Rho) (x : XD) (G : GH) (Qd : Option Int → GH → Prop), SR K Z G H ρ σ ∧ HR K Z G H ∧ d ρ x G Qd ∧
  (∀ o G' H', Fr G H G' H' → HR K Z G' H' → Qd o G' → Q o H') ∧ XOk K Z W G H σ x
abbrev PDO (X : Cx) (W : WX) (e : Option Expr) (d : DO) : Prop := PO X e (lowO X.K W d)
def dNoPart : DO := fun _ _ G Q => Q none G
def dPart (a : DE) : DO := fun ρ x G Q => a ρ x G fun z G1 => ∃ i, z = .int i ∧ Q (some i) G1
theorem PO.imp {X : Cx} {e : Option Expr} {t t' : TO} (h : PO X e t) (i : ∀ σ H Q, t' σ H Q → t σ H Q) : PO X e t' := ⟨fun pins s σ H Q I q => h.run pins s σ H Q I (i σ H Q q)⟩
def rdSl : D → Option Int → Option Int → GH → DK → Prop := fun z lo hi G Q => match z with
  | .tup xs => Q (.tup (cutX xs lo hi)) G
  | .lst xs => Q (.lst (cutX xs lo hi)) G
  | .scr ns => Q (.lst ((cutX ns lo hi).map D.int)) G
  | .ref a => ∃ xs, G a = some (.lst xs) ∧ Q (.lst (cutX xs lo hi)) G
  | .str w => w.length ≤ sizeLine ∧ Q (.str (cutS w lo hi)) G
  | _ => False
def dSl (a : DE) (l h : DO) : DE := fun ρ x G Q => a ρ x G fun z G1 => l ρ x G1 fun lo G2 => h ρ x G2 fun hi G3 => rdSl z lo hi G3 Q
def rSlAll (K : PySem.W.Frag) : V → Option Int → Option Int → Hp → VK → Prop := fun x lo hi H Q => rSlA K x lo hi H Q ∨ rSlL K x lo hi H Q ∨ rSlS x lo hi H Q
theorem slr_all {X : Cx} : SlR X (rSlAll X.K) := sl_tupA.or (sl_list.or sl_str)
theorem sll_all {K : PySem.W.Frag} {Z : Addr → Prop} {z : D} {v : V} {lo hi : Option Int} {G : GH} {H : Hp} {Qd : DK} {Q : VK} (hr : HR K Z G H) (dz : DV K Z G H z v) (h : rdSl z lo hi G Qd) (c : Ret K Z G H Qd Q) : rSlAll K v lo hi H Q := by
  unfold rdSl at h
  split at h
  · cases dz with
    | tup n1 g1 h1 z1 r1 =>
      refine .inl ⟨_, _, rfl, SqT.of h1, fun ⟨e1, e2⟩ => ?_, fun _ p hp => Ret.tup c hr hp (r1.cut lo hi) (Nat.le_trans (cutV_length _ _ _) z1) h⟩
      rw [← r1.length] at e1 e2
      rw [cutX_whole e1 e2] at h
      exact Ret.here c hr (.tup n1 g1 h1 z1 r1) h
  · cases dz with
    | lst n1 g1 h1 z1 r1 => exact .inr (.inl ⟨_, _, rfl, SqL.of h1, fun p hp => Ret.lst c hr hp (r1.cut lo hi) (Nat.le_trans (cutV_length _ _ _) z1) h⟩)
  · cases dz with
    | scr h1 z1 =>
      refine .inr (.inl ⟨_, _, rfl, h1.seq, fun p hp => Ret.lst c hr hp ?_ (Nat.le_trans (cutV_length _ _ _) (by rw [List.length_map]; exact z1)) h⟩)
      rw [← cutX_map]
      exact (DVs.of_ints _).cut lo hi
  · cases dz
    obtain ⟨xs, g, q⟩ := h
    obtain ⟨vs, h1, r1, z1⟩ := hr.at_ _ _ g
    exact .inr (.inl ⟨_, _, rfl, SqL.of h1, fun p hp => Ret.lst c hr hp (r1.cut lo hi) (Nat.le_trans (cutV_length _ _ _) z1) q⟩)
  · cases dz
    exact .inr (.inr ⟨_, rfl, h.1, Ret.here c hr (.str _) h.2⟩)
  · exact h.elim
section
variable {X : Cx} {W : WX} {a : Expr} {l u : Option Expr} {da : DE} {dl du : DO} {pos p2 : Pos}
theorem pdo_none : PDO X W none dNoPart := PO.imp po_none fun σ H Q ⟨Z, ρ, x, G, Qd, sr, hr, h, c, xo⟩ => c none G H (Fr.refl G H) hr h
theorem pdo_some (ha : PD X W a da) : PDO X W (some a) (dPart da) := PO.imp (po_some ha) fun σ H Q ⟨Z, ρ, x, G, Qd, sr, hr, h, c, xo⟩ => ⟨Z, ρ, x, G, _, sr, hr, h, fun z v G1 H1 f1 r1 d1 ⟨i, e, q⟩ => by
  subst e
  cases d1
  exact ⟨i, rfl, c _ G1 H1 f1 r1 q⟩, xo⟩
theorem pd_slice (ha : PD X W a da) (hl : PDO X W l dl) (hu : PDO X W u du) : PD X W (.Subscript a (.Slice l u none p2) pos) (dSl da dl du) :=
  PE.imp (pe_slice slr_all ha hl hu) fun σ H Q ⟨Z, ρ, x, G, Qd, sr, hr, h, c, xo⟩ => ⟨Z, ρ, x, G, _, sr, hr, h, fun z v G1 H1 f1 r1 d1 q1 =>
    ⟨Z, ρ, x, G1, _, sr.mono f1, r1, q1, fun lo G2 H2 f2 r2 q2 => ⟨Z, ρ, x, G2, _, sr.mono (f1.trans f2), r2, q2, fun hi G3 H3 f3 r3 q3 => sll_all r3 (d1.mono (f2.trans f3)) q3 (Ret.mono (f1.trans (f2.trans f3)) c), xo.mono (f1.trans f2)⟩, xo.mono f1⟩, xo⟩
end
end TD
/-! # TD, 4: ==, built-in functions, isinstance -/
namespace TD
open PySem L2

/-! ### equality of data -/
def toP : D → PyData
  | .non => .none
  | .bl b => .bool b
  | .int i => .int i
  | .str x => .str x
  | .tup xs => .tuple (xs.attach.map fun ⟨x, _⟩ => toP x)
  | .lst xs => .list (xs.attach.map fun ⟨x, _⟩ => toP x)
  | .ref _ => .none
  | .ty _ => .none
  | .dic => .none
  | .scr ns => .list (ns.map PyData.int)
theorem toP_tup (xs : List D) : toP (.tup xs) = .tuple (xs.map toP) := by rw [toP]; congr 1; simp
theorem toP_lst (xs : List D) : toP (.lst xs) = .list (xs.map toP) := by rw [toP]; congr 1; simp
def strOk0 (x : Str) : Bool := x.cps.all (· < 0x110000)
/-- plain data of a depth up to n -/
def pureN : Nat → D → Bool
  | _, .non => true
  | _, .bl _ => true
  | _, .int _ => true
  | _, .str x => strOk0 x
  | n + 1, .tup xs => xs.all (pureN n)
  | n + 1, .lst xs => xs.all (pureN n)
  | _, _ => false
mutual
def deq : D → D → Bool
  | .non, .non => true
  | .bl a, .bl b => a == b
  | .bl a, .int j => (if a then 1 else 0) == j
  | .int i, .bl b => i == (if b then 1 else 0)
  | .int i, .int j => i == j
  | .str x, .str y => x == y
  | .tup xs, .tup ys => deqs xs ys
  | .lst xs, .lst ys => deqs xs ys
  | _, _ => false
def deqs : List D → List D → Bool
  | [], [] => true
  | x :: xs, y :: ys => deq x y && deqs xs ys
  | _, _ => false
end
theorem canLayAll_all : ∀ {xs : List PyData}, (∀ x ∈ xs, x.canLay0 = true) → PyData.canLayAll0 xs = true
  | [], _ => by unfold PyData.canLayAll0; rfl
  | x :: xs, h => by
    unfold PyData.canLayAll0
    rw [h x List.mem_cons_self, canLayAll_all fun y hy => h y (List.mem_cons_of_mem _ hy)] <;> rfl
theorem depthAll_le {n : Nat} : ∀ {xs : List PyData}, (∀ x ∈ xs, x.depth ≤ n) → PyData.depthAll xs ≤ n
  | [], _ => by unfold PyData.depthAll; exact Nat.zero_le _
  | x :: xs, h => by
    unfold PyData.depthAll
    exact Nat.max_le.mpr ⟨h x List.mem_cons_self, depthAll_le fun y hy => h y (List.mem_cons_of_mem _ hy)⟩
theorem pureN_ok : ∀ (n : Nat) (d : D), pureN n d = true → (toP d).canLay0 = true ∧ (toP d).depth ≤ n := by
  intro n
  induction n with
  | zero =>
    intro d h
    cases d with
    | tup xs => unfold pureN at h; cases h
    | lst xs => unfold pureN at h; cases h
    | non => unfold toP PyData.canLay0 PyData.depth; exact ⟨rfl, Nat.zero_le _⟩
    | bl b => unfold toP PyData.canLay0 PyData.depth; exact ⟨rfl, Nat.zero_le _⟩
    | int i => unfold toP PyData.canLay0 PyData.depth; exact ⟨rfl, Nat.zero_le _⟩
    | str x => unfold pureN at h; unfold toP PyData.canLay0 PyData.depth; exact ⟨h, Nat.zero_le _⟩
    | _ => unfold pureN at h; cases h
  | succ n ih =>
    intro d h
    cases d with
    | tup xs =>
      unfold pureN at h
      rw [List.all_eq_true] at h
      rw [toP_tup]
      unfold PyData.canLay0 PyData.depth
      refine ⟨canLayAll_all fun x hx => ?_, Nat.succ_le_succ (depthAll_le fun x hx => ?_)⟩ <;>
      · obtain ⟨y, hy, rfl⟩ := List.mem_map.mp hx
        first | exact (ih y (h y hy)).1 | exact (ih y (h y hy)).2
    | lst xs =>
      unfold pureN at h
      rw [List.all_eq_true] at h
      rw [toP_lst]
      unfold PyData.canLay0 PyData.depth
      refine ⟨canLayAll_all fun x hx => ?_, Nat.succ_le_succ (depthAll_le fun x hx => ?_)⟩ <;>
      · obtain ⟨y, hy, rfl⟩ := List.mem_map.mp hx
        first | exact (ih y (h y hy)).1 | exact (ih y (h y hy)).2
    | non => unfold toP PyData.canLay0 PyData.depth; exact ⟨rfl, Nat.zero_le _⟩
    | bl b => unfold toP PyData.canLay0 PyData.depth; exact ⟨rfl, Nat.zero_le _⟩
    | int i => unfold toP PyData.canLay0 PyData.depth; exact ⟨rfl, Nat.zero_le _⟩
    | str x => unfold pureN at h; unfold toP PyData.canLay0 PyData.depth; exact ⟨h, Nat.zero_le _⟩
    | _ => unfold pureN at h; cases h
theorem pureN_mono {n m : Nat} (l : n ≤ m) : ∀ {d : D}, pureN n d = true → pureN m d = true := by
  induction n generalizing m with
  | zero =>
    intro d h
    cases d <;> first | (unfold pureN at h ⊢; first | exact h | rfl | cases h) | (unfold pureN at h; cases h)
  | succ n ih =>
    intro d h
    obtain ⟨m, rfl⟩ : ∃ k, m = k + 1 := ⟨m - 1, by omega⟩
    cases d with
    | tup xs =>
      unfold pureN at h ⊢
      rw [List.all_eq_true] at h ⊢
      exact fun x hx => ih (by omega) (h x hx)
    | lst xs =>
      unfold pureN at h ⊢
      rw [List.all_eq_true] at h ⊢
      exact fun x hx => ih (by omega) (h x hx)
    | _ => first | (unfold pureN at h ⊢; first | exact h | rfl | cases h) | (unfold pureN at h; cases h)
mutual
theorem eqv_deq : ∀ (d e : D) (n : Nat), pureN n d = true → pureN n e = true → PyData.eqv (toP d) (toP e) = deq d e
  | .tup xs, .tup ys, n + 1, h1, h2 => by
    unfold pureN at h1 h2
    rw [List.all_eq_true] at h1 h2
    rw [toP_tup, toP_tup]
    unfold PyData.eqv deq
    exact eqvs_deqs xs ys n h1 h2
  | .lst xs, .lst ys, n + 1, h1, h2 => by
    unfold pureN at h1 h2
    rw [List.all_eq_true] at h1 h2
    rw [toP_lst, toP_lst]
    unfold PyData.eqv deq
    exact eqvs_deqs xs ys n h1 h2
  | .tup xs, e, 0, h1, _ => by unfold pureN at h1; cases h1
  | .lst xs, e, 0, h1, _ => by unfold pureN at h1; cases h1
  | .ref _, _, n, h1, _ => by cases n <;> (unfold pureN at h1; cases h1)
  | .ty _, _, n, h1, _ => by cases n <;> (unfold pureN at h1; cases h1)
  | .dic, _, n, h1, _ => by cases n <;> (unfold pureN at h1; cases h1)
  | .scr _, _, n, h1, _ => by cases n <;> (unfold pureN at h1; cases h1)
  | _, .ref _, n, _, h1 => by cases n <;> (unfold pureN at h1; cases h1)
  | _, .ty _, n, _, h1 => by cases n <;> (unfold pureN at h1; cases h1)
  | _, .dic, n, _, h1 => by cases n <;> (unfold pureN at h1; cases h1)
  | _, .scr _, n, _, h1 => by cases n <;> (unfold pureN at h1; cases h1)
  | .non, .non, _, _, _ | .non, .bl _, _, _, _ | .non, .int _, _, _, _ | .non, .str _, _, _, _ => by simp [toP, PyData.eqv, deq]
  | .bl _, .non, _, _, _ | .bl _, .bl _, _, _, _ | .bl _, .int _, _, _, _ | .bl _, .str _, _, _, _ => by simp [toP, PyData.eqv, deq]
  | .int _, .non, _, _, _ | .int _, .bl _, _, _, _ | .int _, .int _, _, _, _ | .int _, .str _, _, _, _ => by simp [toP, PyData.eqv, deq]
  | .str _, .non, _, _, _ | .str _, .bl _, _, _, _ | .str _, .int _, _, _, _ | .str _, .str _, _, _, _ => by simp [toP, PyData.eqv, deq]
  | .non, .tup _, _, _, _ | .non, .lst _, _, _, _ | .bl _, .tup _, _, _, _ | .bl _, .lst _, _, _, _ | .int _, .tup _, _, _, _ | .int _, .lst _, _, _, _ | .str _, .tup _, _, _, _ | .str _, .lst _, _, _, _ => by simp [toP, PyData.eqv, deq]
  | .tup _, .non, _ + 1, _, _ | .tup _, .bl _, _ + 1, _, _ | .tup _, .int _, _ + 1, _, _ | .tup _, .str _, _ + 1, _, _ | .tup _, .lst _, _ + 1, _, _ => by simp [toP, PyData.eqv, deq]
  | .lst _, .non, _ + 1, _, _ | .lst _, .bl _, _ + 1, _, _ | .lst _, .int _, _ + 1, _, _ | .lst _, .str _, _ + 1, _, _ | .lst _, .tup _, _ + 1, _, _ => by simp [toP, PyData.eqv, deq]
theorem eqvs_deqs : ∀ (xs ys : List D) (n : Nat), (∀ x ∈ xs, pureN n x = true) → (∀ x ∈ ys, pureN n x = true) → PyData.eqvAll (xs.map toP) (ys.map toP) = deqs xs ys
  | [], [], _, _, _ => by simp [PyData.eqvAll, deqs]
  | [], _ :: _, _, _, _ => by simp [PyData.eqvAll, deqs]
  | _ :: _, [], _, _, _ => by simp [PyData.eqvAll, deqs]
  | x :: xs, y :: ys, n, h1, h2 => by
    rw [List.map_cons, List.map_cons]
    unfold PyData.eqvAll deqs
    rw [eqv_deq x y n (h1 x List.mem_cons_self) (h2 y List.mem_cons_self), eqvs_deqs xs ys n (fun z hz => h1 z (List.mem_cons_of_mem _ hz)) fun z hz => h2 z (List.mem_cons_of_mem _ hz)]
end
section
variable {K : PySem.W.Frag} {Z : Addr → Prop} {G : GH} {H : Hp}
mutual
theorem DV.dp : ∀ {d : D} {v : V}, DV K Z G H d v → ∀ n, pureN n d = true → Dp K H v (toP d)
  | _, _, .non, _, _ => by unfold toP; exact .non
  | _, _, .bl b, _, _ => by unfold toP; exact .bl b
  | _, _, .int i, _, _ => by unfold toP; exact .int i
  | _, _, .str x, _, _ => by unfold toP; exact .str x
  | _, _, .ref a, n, h => by cases n <;> (unfold pureN at h; cases h)
  | _, _, .ty a, n, h => by cases n <;> (unfold pureN at h; cases h)
  | _, _, .dic _ _ _, n, h => by cases n <;> (unfold pureN at h; cases h)
  | _, _, .scr _ _, n, h => by cases n <;> (unfold pureN at h; cases h)
  | _, _, .tup _ _ _ _ _, 0, h => by unfold pureN at h; cases h
  | _, _, .lst _ _ _ _ _, 0, h => by unfold pureN at h; cases h
  | _, _, .tup ng g h1 z r, n + 1, h => by
    unfold pureN at h
    rw [List.all_eq_true] at h
    rw [toP_tup]
    exact .tup (SqT.of h1) (DVs.dp r n h)
  | _, _, .lst ng g h1 z r, n + 1, h => by
    unfold pureN at h
    rw [List.all_eq_true] at h
    rw [toP_lst]
    exact .lst (SqL.of h1) (DVs.dp r n h)
theorem DVs.dp : ∀ {ds : List D} {vs : List V}, DVs K Z G H ds vs → ∀ n, (∀ x ∈ ds, pureN n x = true) → DpAll K H vs (ds.map toP)
  | _, _, .nil, _, _ => .nil
  | _, _, .cons a b, n, h => .cons (DV.dp a n (h _ List.mem_cons_self)) (DVs.dp b n fun x hx => h x (List.mem_cons_of_mem _ hx))
end
end
/-- == and != of plain data -/
def rdEq : RD2 := fun z y G Q => ∃ n, n ≤ 60 ∧ pureN n z = true ∧ pureN n y = true ∧ Q (.bl (deq z y)) G
def rdNe : RD2 := fun z y G Q => ∃ n, n ≤ 60 ∧ pureN n z = true ∧ pureN n y = true ∧ Q (.bl (!deq z y)) G
theorem shaped_of {n : Nat} {d : D} (h : pureN n d = true) (l : n ≤ 60) : SeqAt.shaped (toP d) = true := by
  obtain ⟨h1, h2⟩ := pureN_ok n d h
  unfold SeqAt.shaped
  rw [h1, decide_eq_true (by omega)] <;> rfl
theorem opl_eq {K : PySem.W.Frag} : OpL K (rEqD K) rdEq := by
  rintro Z z y vz vy G H Qd Q hr dz dy ⟨n, l, h1, h2, q⟩ c
  refine ⟨_, _, dz.dp n h1, dy.dp n h2, shaped_of h1 l, shaped_of h2 l, ?_⟩
  rw [eqv_deq z y n h1 h2]
  exact Ret.bl c hr q
theorem opl_ne {K : PySem.W.Frag} : OpL K (rNeD K) rdNe := by
  rintro Z z y vz vy G H Qd Q hr dz dy ⟨n, l, h1, h2, q⟩ c
  refine ⟨_, _, dz.dp n h1, dy.dp n h2, shaped_of h1 l, shaped_of h2 l, ?_⟩
  rw [eqv_deq z y n h1 h2]
  exact Ret.bl c hr q

/-! ### built-in functions, by the values of their arguments -/
abbrev RDC := List D → GH → DK → Prop
def CallL (K : PySem.W.Frag) (r : List V → Hp → VK → Prop) (rd : RDC) : Prop := ∀ Z zs vs G H Qd Q, HR K Z G H → DVs K Z G H zs vs → rd zs G Qd → Ret K Z G H Qd Q → r vs H Q
def dCB (r : RDC) (t : DA) : DE := fun ρ x G Q => t ρ x G fun zs G1 => r zs G1 Q
theorem low_cb {K : PySem.W.Frag} {W : WX} {r : List V → Hp → VK → Prop} {rd : RDC} {t : DA} (hl : CallL K r rd) : ∀ σ H Q, lowE K W (dCB rd t) σ H Q → tCB r (lowA K W t) σ H Q := fun σ H Q ⟨Z, ρ, x, G, Qd, sr, hr, h, c, xo⟩ =>
  ⟨Z, ρ, x, G, _, sr, hr, h, fun zs vs G1 H1 f1 r1 d1 q1 => hl Z zs vs G1 H1 Qd Q r1 d1 q1 (Ret.mono f1 c), xo⟩
section
variable {X : Cx} {W : WX} {e : Expr} {es : List Expr} {t : DA} {x : Str} {p pos : Pos} {id T : String} {r : List V → Hp → VK → Prop} {rd : RDC}
theorem pd_callB (hc : CallR X (.builtin id) r) (hl : CallL X.K r rd) (hm : X.mg x = none) (ha : PDA X W (e :: es) t) (hv : bootBuiltins x = some (.builtin id) := by decide +kernel) (hg : Gl X x := by rfl) (hn : x ≠ "__name__" := by decide) (hdb : (x == ("__debug__" : Str)) = false := by decide)
    (he : starEach (e :: es) X.env = (false, eval e X.env) :: starEach es X.env := by rfl) (hpl : (backTo pos (starEach es X.env)).any (·.1) = false := by rfl) : PD X W (.Call (.Name x p) (e :: es) [] pos) (dCB rd t) :=
  PE.imp (pe_callB hc hg hm hv ha hn hdb he hpl) (low_cb hl)
theorem pd_callTy (hc : CallR X (.type T) r) (hl : CallL X.K r rd) (hm : X.mg x = none) (ha : PDA X W (e :: es) t) (hv : bootBuiltins x = some (.type T) := by decide +kernel) (hg : Gl X x := by rfl) (hn : x ≠ "__name__" := by decide) (hdb : (x == ("__debug__" : Str)) = false := by decide)
    (he : starEach (e :: es) X.env = (false, eval e X.env) :: starEach es X.env := by rfl) (hpl : (backTo pos (starEach es X.env)).any (·.1) = false := by rfl) : PD X W (.Call (.Name x p) (e :: es) [] pos) (dCB rd t) :=
  PE.imp (pe_callTy hc hg hm hv ha hn hdb he hpl) (low_cb hl)
end
def rdLen : RDC := fun zs G Q => match zs with
  | [.tup xs] => Q (.int xs.length) G
  | [.lst xs] => Q (.int xs.length) G
  | [.scr xs] => Q (.int xs.length) G
  | [.str w] => w.length ≤ sizeLine ∧ Q (.int w.length) G
  | [.ref a] => ∃ xs, G a = some (.lst xs) ∧ Q (.int xs.length) G
  | _ => False
theorem DVs.one {K : PySem.W.Frag} {Z : Addr → Prop} {G : GH} {H : Hp} {z : D} {vs : List V} (r : DVs K Z G H [z] vs) : ∃ v, vs = [v] ∧ DV K Z G H z v := by
  cases r with
  | cons a b => cases b; exact ⟨_, rfl, a⟩
theorem DVs.two {K : PySem.W.Frag} {Z : Addr → Prop} {G : GH} {H : Hp} {z y : D} {vs : List V} (r : DVs K Z G H [z, y] vs) : ∃ v u, vs = [v, u] ∧ DV K Z G H z v ∧ DV K Z G H y u := by
  cases r with
  | cons a b =>
    cases b with
    | cons a2 b2 => cases b2; exact ⟨_, _, rfl, a, a2⟩
abbrev rLen (K : PySem.W.Frag) : List V → Hp → VK → Prop := fun xs H Q => ∃ x n, xs = [x] ∧ LenV K x H n ∧ Q (.int n) H
theorem cll_len {K : PySem.W.Frag} : CallL K (rLen K) rdLen := by
  intro Z zs vs G H Qd Q hr ds h c
  unfold rdLen at h
  split at h
  · obtain ⟨v, rfl, d⟩ := ds.one
    cases d with
    | tup n1 g1 h1 z1 r1 => exact ⟨_, _, rfl, .inr ⟨_, SqT.of h1, r1.length⟩, Ret.int c hr h⟩
  · obtain ⟨v, rfl, d⟩ := ds.one
    cases d with
    | lst n1 g1 h1 z1 r1 => exact ⟨_, _, rfl, .inl ⟨_, SqL.of h1, r1.length⟩, Ret.int c hr h⟩
  · obtain ⟨v, rfl, d⟩ := ds.one
    cases d with
    | scr h1 z1 => exact ⟨_, _, rfl, .inl ⟨_, h1.seq, by rw [List.length_map]⟩, Ret.int c hr h⟩
  · obtain ⟨v, rfl, d⟩ := ds.one
    cases d
    exact ⟨_, _, rfl, ⟨h.1, rfl⟩, Ret.int c hr h.2⟩
  · obtain ⟨v, rfl, d⟩ := ds.one
    cases d
    obtain ⟨xs, g, q⟩ := h
    obtain ⟨ws, h1, r1, _⟩ := hr.at_ _ _ g
    exact ⟨_, _, rfl, .inl ⟨_, SqL.of h1, r1.length⟩, Ret.int c hr q⟩
  · exact h.elim
/-- the items of a sequence of ints, of bools -/
def dInts : List D → Option (List Int)
  | [] => some []
  | .int i :: r => (dInts r).map (i :: ·)
  | _ => none
def dBls : List D → Option (List Bool)
  | [] => some []
  | .bl i :: r => (dBls r).map (i :: ·)
  | _ => none
theorem dInts_of : ∀ {xs : List D} {ns : List Int}, dInts xs = some ns → xs = ns.map D.int
  | [], ns, h => by cases h; rfl
  | .int i :: r, ns, h => by
    unfold dInts at h
    cases e : dInts r with
    | none => rw [e] at h; cases h
    | some ms => rw [e] at h; cases h; rw [dInts_of e] <;> rfl
  | .non :: r, ns, h => by cases h
  | .bl _ :: r, ns, h => by cases h
  | .str _ :: r, ns, h => by cases h
  | .ref _ :: r, ns, h => by cases h
  | .ty _ :: r, ns, h => by cases h
  | .dic :: r, ns, h => by cases h
  | .tup _ :: r, ns, h => by cases h
  | .lst _ :: r, ns, h => by cases h
  | .scr _ :: r, ns, h => by cases h
theorem dInts_map (ns : List Int) : dInts (ns.map D.int) = some ns := by
  induction ns with
  | nil => rfl
  | cons n ns ih => rw [List.map_cons]; unfold dInts; rw [ih] <;> rfl
theorem dBls_of : ∀ {xs : List D} {ns : List Bool}, dBls xs = some ns → xs = ns.map D.bl
  | [], ns, h => by cases h; rfl
  | .bl i :: r, ns, h => by
    unfold dBls at h
    cases e : dBls r with
    | none => rw [e] at h; cases h
    | some ms => rw [e] at h; cases h; rw [dBls_of e] <;> rfl
  | .non :: r, ns, h => by cases h
  | .int _ :: r, ns, h => by cases h
  | .str _ :: r, ns, h => by cases h
  | .ref _ :: r, ns, h => by cases h
  | .ty _ :: r, ns, h => by cases h
  | .dic :: r, ns, h => by cases h
  | .tup _ :: r, ns, h => by cases h
  | .lst _ :: r, ns, h => by cases h
  | .scr _ :: r, ns, h => by cases h
theorem dBls_map (ns : List Bool) : dBls (ns.map D.bl) = some ns := by
  induction ns with
  | nil => rfl
  | cons n ns ih => rw [List.map_cons]; unfold dBls; rw [ih] <;> rfl
/-- sum, max, min, all, any of a list -/
def rdSum : RDC := fun zs G Q => ∃ xs ns, zs = [.lst xs] ∧ dInts xs = some ns ∧ Q (.int ns.sum) G
def rdAll : RDC := fun zs G Q => ∃ xs bs, zs = [.lst xs] ∧ dBls xs = some bs ∧ Q (.bl (bs.all id)) G
def rdAny : RDC := fun zs G Q => ∃ xs bs, zs = [.lst xs] ∧ dBls xs = some bs ∧ Q (.bl (bs.any id)) G
theorem cll_sum {K : PySem.W.Frag} : CallL K (rSum K) rdSum := by
  rintro Z zs vs G H Qd Q hr ds ⟨xs, ns, rfl, e, q⟩ c
  obtain ⟨v, rfl, d⟩ := ds.one
  cases d with
  | lst n1 g1 h1 z1 r1 =>
    rw [dInts_of e] at r1
    exact ⟨_, ns, rfl, by rw [← r1.ints]; exact SqL.of h1, Ret.int c hr q⟩
theorem cll_all {K : PySem.W.Frag} : CallL K (rAll K) rdAll := by
  rintro Z zs vs G H Qd Q hr ds ⟨xs, ns, rfl, e, q⟩ c
  obtain ⟨v, rfl, d⟩ := ds.one
  cases d with
  | lst n1 g1 h1 z1 r1 =>
    rw [dBls_of e] at r1
    exact ⟨_, ns, rfl, by rw [← r1.bls]; exact SqL.of h1, Ret.bl c hr q⟩
theorem cll_any {K : PySem.W.Frag} : CallL K (rAny K) rdAny := by
  rintro Z zs vs G H Qd Q hr ds ⟨xs, ns, rfl, e, q⟩ c
  obtain ⟨v, rfl, d⟩ := ds.one
  cases d with
  | lst n1 g1 h1 z1 r1 =>
    rw [dBls_of e] at r1
    exact ⟨_, ns, rfl, by rw [← r1.bls]; exact SqL.of h1, Ret.bl c hr q⟩
/-- max, min of a list of ints -/
def rdMaxL : RDC := fun zs G Q => ∃ xs ns, zs = [.lst xs] ∧ dInts xs = some ns ∧ 0 < ns.length ∧ ∀ m, m ∈ ns → (∀ y, y ∈ ns → y ≤ m) → Q (.int m) G
def rdMinL : RDC := fun zs G Q => ∃ xs ns, zs = [.lst xs] ∧ dInts xs = some ns ∧ 0 < ns.length ∧ ∀ m, m ∈ ns → (∀ y, y ∈ ns → m ≤ y) → Q (.int m) G
theorem cll_maxL {K : PySem.W.Frag} : CallL K (rMax K) rdMaxL := by
  rintro Z zs vs G H Qd Q hr ds ⟨xs, ns, rfl, e, l, q⟩ c
  obtain ⟨v, rfl, d⟩ := ds.one
  cases d with
  | lst n1 g1 h1 z1 r1 =>
    rw [dInts_of e] at r1
    exact ⟨_, ns, rfl, by rw [← r1.ints]; exact SqL.of h1, l, fun m h2 h3 => Ret.int c hr (q m h2 h3)⟩
theorem cll_minL {K : PySem.W.Frag} : CallL K (rMin K) rdMinL := by
  rintro Z zs vs G H Qd Q hr ds ⟨xs, ns, rfl, e, l, q⟩ c
  obtain ⟨v, rfl, d⟩ := ds.one
  cases d with
  | lst n1 g1 h1 z1 r1 =>
    rw [dInts_of e] at r1
    exact ⟨_, ns, rfl, by rw [← r1.ints]; exact SqL.of h1, l, fun m h2 h3 => Ret.int c hr (q m h2 h3)⟩
/-- max, min of two ints; abs; int -/
def rdMax2 : RDC := fun zs G Q => match zs with
  | [.int i, .int j] => Q (.int (if j > i then j else i)) G
  | _ => False
def rdMin2 : RDC := fun zs G Q => match zs with
  | [.int i, .int j] => Q (.int (if j < i then j else i)) G
  | _ => False
def rdAbs : RDC := fun zs G Q => match zs with
  | [.int i] => Q (.int (if i < 0 then -i else i)) G
  | _ => False
def rdInt1 : RDC := fun zs G Q => match zs with
  | [.int i] => Q (.int i) G
  | _ => False
theorem cll_max2 {K : PySem.W.Frag} : CallL K (fun xs H Q => ∃ i j, xs = [.int i, .int j] ∧ Q (.int (if j > i then j else i)) H) rdMax2 := by
  intro Z zs vs G H Qd Q hr ds h c
  unfold rdMax2 at h
  split at h
  · obtain ⟨v, u, rfl, d1, d2⟩ := ds.two
    cases d1; cases d2
    exact ⟨_, _, rfl, Ret.int c hr h⟩
  · exact h.elim
theorem cll_min2 {K : PySem.W.Frag} : CallL K (fun xs H Q => ∃ i j, xs = [.int i, .int j] ∧ Q (.int (if j < i then j else i)) H) rdMin2 := by
  intro Z zs vs G H Qd Q hr ds h c
  unfold rdMin2 at h
  split at h
  · obtain ⟨v, u, rfl, d1, d2⟩ := ds.two
    cases d1; cases d2
    exact ⟨_, _, rfl, Ret.int c hr h⟩
  · exact h.elim
theorem cll_abs {K : PySem.W.Frag} : CallL K (fun xs H Q => ∃ i, xs = [.int i] ∧ Q (.int (if i < 0 then -i else i)) H) rdAbs := by
  intro Z zs vs G H Qd Q hr ds h c
  unfold rdAbs at h
  split at h
  · obtain ⟨v, rfl, d⟩ := ds.one
    cases d
    exact ⟨_, rfl, Ret.int c hr h⟩
  · exact h.elim
theorem cll_int1 {K : PySem.W.Frag} : CallL K (fun xs H Q => (∃ i, xs = [.int i] ∧ Q (.int i) H) ∨ ∃ k, xs = [.bl k] ∧ Q (.int (if k then 1 else 0)) H) rdInt1 := by
  intro Z zs vs G H Qd Q hr ds h c
  unfold rdInt1 at h
  split at h
  · obtain ⟨v, rfl, d⟩ := ds.one
    cases d
    exact .inl ⟨_, rfl, Ret.int c hr h⟩
  · exact h.elim
/-- tuple(..), list(..) -/
def rdTuple : RDC := fun zs G Q => match zs with
  | [.tup xs] => Q (.tup xs) G
  | [.lst xs] => Q (.tup xs) G
  | [.ref a] => ∃ xs, G a = some (.lst xs) ∧ Q (.tup xs) G
  | _ => False
def rdList : RDC := fun zs G Q => match zs with
  | [.tup xs] => Q (.lst xs) G
  | [.lst xs] => Q (.lst xs) G
  | [.ref a] => ∃ xs, G a = some (.lst xs) ∧ Q (.lst xs) G
  | _ => False
def rdListM : RDC := fun zs G Q => match zs with
  | [.tup xs] => ∀ p, G p = none → Q (.ref p) (gup G p (.lst xs))
  | [.lst xs] => ∀ p, G p = none → Q (.ref p) (gup G p (.lst xs))
  | [.ref a] => ∃ xs, G a = some (.lst xs) ∧ ∀ p, G p = none → Q (.ref p) (gup G p (.lst xs))
  | _ => False
abbrev rTupleOf (K : PySem.W.Frag) : List V → Hp → VK → Prop := fun xs H Q => ∃ p ys, xs = [.ref p] ∧ ((SqL K H p ys ∧ ∀ l, H l = none → Q (.ref l) (upd H l (.tup ys))) ∨ (SqT K H p ys ∧ Q (.ref p) H))
abbrev rListOf (K : PySem.W.Frag) : List V → Hp → VK → Prop := fun xs H Q => ∃ p ys, xs = [.ref p] ∧ (SqL K H p ys ∨ SqT K H p ys) ∧ ∀ l, H l = none → Q (.ref l) (upd H l (.lst ys))
theorem cll_tuple {K : PySem.W.Frag} : CallL K (rTupleOf K) rdTuple := by
  intro Z zs vs G H Qd Q hr ds h c
  unfold rdTuple at h
  split at h
  · obtain ⟨v, rfl, d⟩ := ds.one
    cases d with
    | tup n1 g1 h1 z1 r1 => exact ⟨_, _, rfl, .inr ⟨SqT.of h1, Ret.here c hr (.tup n1 g1 h1 z1 r1) h⟩⟩
  · obtain ⟨v, rfl, d⟩ := ds.one
    cases d with
    | lst n1 g1 h1 z1 r1 => exact ⟨_, _, rfl, .inl ⟨SqL.of h1, fun l hl => Ret.tup c hr hl r1 z1 h⟩⟩
  · obtain ⟨v, rfl, d⟩ := ds.one
    cases d
    obtain ⟨xs, g, q⟩ := h
    obtain ⟨ws, h1, r1, z1⟩ := hr.at_ _ _ g
    exact ⟨_, _, rfl, .inl ⟨SqL.of h1, fun l hl => Ret.tup c hr hl r1 z1 q⟩⟩
  · exact h.elim
theorem cll_list {K : PySem.W.Frag} : CallL K (rListOf K) rdList := by
  intro Z zs vs G H Qd Q hr ds h c
  unfold rdList at h
  split at h
  · obtain ⟨v, rfl, d⟩ := ds.one
    cases d with
    | tup n1 g1 h1 z1 r1 => exact ⟨_, _, rfl, .inr (SqT.of h1), fun l hl => Ret.lst c hr hl r1 z1 h⟩
  · obtain ⟨v, rfl, d⟩ := ds.one
    cases d with
    | lst n1 g1 h1 z1 r1 => exact ⟨_, _, rfl, .inl (SqL.of h1), fun l hl => Ret.lst c hr hl r1 z1 h⟩
  · obtain ⟨v, rfl, d⟩ := ds.one
    cases d
    obtain ⟨xs, g, q⟩ := h
    obtain ⟨ws, h1, r1, z1⟩ := hr.at_ _ _ g
    exact ⟨_, _, rfl, .inl (SqL.of h1), fun l hl => Ret.lst c hr hl r1 z1 q⟩
  · exact h.elim
theorem cll_listM {K : PySem.W.Frag} : CallL K (rListOf K) rdListM := by
  intro Z zs vs G H Qd Q hr ds h c
  unfold rdListM at h
  split at h
  · obtain ⟨v, rfl, d⟩ := ds.one
    cases d with
    | tup n1 g1 h1 z1 r1 => exact ⟨_, _, rfl, .inr (SqT.of h1), fun l hl => Ret.lstM c hr hl r1 z1 (h l (hr.free hl))⟩
  · obtain ⟨v, rfl, d⟩ := ds.one
    cases d with
    | lst n1 g1 h1 z1 r1 => exact ⟨_, _, rfl, .inl (SqL.of h1), fun l hl => Ret.lstM c hr hl r1 z1 (h l (hr.free hl))⟩
  · obtain ⟨v, rfl, d⟩ := ds.one
    cases d
    obtain ⟨xs, g, q⟩ := h
    obtain ⟨ws, h1, r1, z1⟩ := hr.at_ _ _ g
    exact ⟨_, _, rfl, .inl (SqL.of h1), fun l hl => Ret.lstM c hr hl r1 z1 (q l (hr.free hl))⟩
  · exact h.elim
/-- the built-in type of a value -/
def tyD (G : GH) : D → Option String
  | .non => some "NoneType"
  | .bl _ => some "bool"
  | .int _ => some "int"
  | .str _ => some "str"
  | .tup _ => some "tuple"
  | .lst _ => some "list"
  | .scr _ => none
  | .dic => some "dict"
  | .ty _ => none
  | .ref a => match G a with
    | some (.lst _) => some "list"
    | some (.dK _) => some "dict"
    | some (.dT _) => some "dict"
    | _ => none
theorem tyD_of {K : PySem.W.Frag} {Z : Addr → Prop} {G : GH} {H : Hp} {z : D} {v : V} {t : String} (hr : HR K Z G H) (d : DV K Z G H z v) (h : tyD G z = some t) : TyX K H v (.type t) := by
  cases d with
  | non => cases h; exact .base .non
  | bl b => cases h; exact .base (.bl b)
  | int b => cases h; exact .base (.int b)
  | str b => cases h; exact .base (.str b)
  | ty b => cases h
  | scr _ _ => cases h
  | dic _ g e =>
    cases h
    rcases e with ⟨k, e⟩ | ⟨k, e⟩
    · exact .base (.dK e)
    · exact .base (.dT e)
  | tup ng g h1 z r => cases h; exact .base (.tup h1)
  | lst ng g h1 z r => cases h; exact .base (.lst h1)
  | ref a =>
    unfold tyD at h
    simp only at h
    split at h
    · rename_i e
      obtain ⟨_, h1, _⟩ := hr.at_ _ _ e
      cases h; exact .base (.lst h1)
    · rename_i e
      obtain ⟨_, h1, _⟩ := hr.at_ _ _ e
      cases h; exact .base (.dK h1)
    · rename_i e
      obtain ⟨_, h1, _⟩ := hr.at_ _ _ e
      cases h; exact .base (.dT h1)
    · cases h
/-- isinstance(x, c), c a built-in class -/
def isiB (t c : String) : Bool := t == c || (t == "bool" && c == "int")
def tyNames : List String := ["NoneType", "bool", "int", "str", "tuple", "list", "dict"]
theorem isi_kit (K : PySem.W.Frag) {t c : String} (h : t ∈ tyNames) (h2 : c ∈ tyNames) : PySem.W.kitOne K (.type t) (.type c) = some (isiB t c) := by
  simp only [tyNames, List.mem_cons, List.not_mem_nil, or_false] at h h2
  rcases h with rfl | rfl | rfl | rfl | rfl | rfl | rfl <;> rcases h2 with rfl | rfl | rfl | rfl | rfl | rfl | rfl <;> rfl
theorem tyD_mem {G : GH} {z : D} {t : String} (h : tyD G z = some t) : t ∈ tyNames := by
  unfold tyD at h
  split at h <;> first | (cases h; decide) | (cases h; done) | skip
  split at h <;> first | (cases h; decide) | cases h
def rdIsi : RDC := fun zs G Q => match zs with
  | [z, .ty c] => ∃ t, tyD G z = some t ∧ c ∈ tyNames ∧ Q (.bl (isiB t c)) G
  | _ => False
theorem cll_isi {K : PySem.W.Frag} : CallL K (rIsi K) rdIsi := by
  intro Z zs vs G H Qd Q hr ds h c
  unfold rdIsi at h
  split at h
  · obtain ⟨v, u, rfl, d1, d2⟩ := ds.two
    obtain ⟨t, e1, e2, q⟩ := h
    cases d2
    exact ⟨v, _, _, _, _, rfl, .ty _, tyD_of hr d1 e1, isi_kit K (tyD_mem e1) e2, Ret.bl c hr q⟩
  · exact h.elim
/-- .. c a class of the program's own -/
def rdIsiO (K : PySem.W.Frag) : RDC := fun zs G Q => match zs with
  | [z, .ref C] => ∃ t b, tyD G z = some t ∧ PySem.W.kitOne K (.type t) (.ref C) = some b ∧ Q (.bl b) G
  | _ => False
theorem cll_isiO {K : PySem.W.Frag} : CallL K (rIsi K) (rdIsiO K) := by
  intro Z zs vs G H Qd Q hr ds h c
  unfold rdIsiO at h
  split at h
  · obtain ⟨v, u, rfl, d1, d2⟩ := ds.two
    obtain ⟨t, b, e1, e2, q⟩ := h
    cases d2
    exact ⟨v, _, _, _, b, rfl, .own _, tyD_of hr d1 e1, e2, Ret.bl c hr q⟩
  · exact h.elim
end TD
/-! # TD, 5: targets, statements, loops, comprehensions -/
namespace TD
open PySem L2

/-! ### targets -/
theorem wipe_set {σ : L2.St} {i : Nat} {o : Option V} : ∀ {vs : List Nat}, i ∈ vs → wipe (σ.set i o) vs = wipe σ vs
  | [], h => by cases h
  | v :: vs, h => by
    unfold wipe
    by_cases e : i = v
    · subst e
      by_cases hm : i ∈ vs
      · rw [wipe_set hm]
      · have aux : ∀ (ws : List Nat), (wipe (σ.set i o) ws).set i none = (wipe σ ws).set i none := by
          intro ws
          induction ws with
          | nil => unfold wipe; rw [List.set_set]
          | cons w ws ih =>
            unfold wipe
            by_cases e : w = i
            · subst e; rw [ih]
            · rw [List.set_comm _ _ e, List.set_comm _ _ e, ih]
        exact aux vs
    · rw [wipe_set ((List.mem_cons.mp h).resolve_left e)]
def gdName (i : Nat) : DG := fun z ρ _ G Q => Q (ρ.set i (some z)) G
def gdNil : DGs := fun zs ρ _ G Q => zs = [] ∧ Q ρ G
def gdCons (g : DG) (gs : DGs) : DGs := fun zs ρ x G Q => match zs with
  | z :: r => g z ρ x G fun ρ' G' => gs r ρ' x G' Q
  | [] => False
def gdTup (gs : DGs) (n : Nat) : DG := fun z ρ x G Q => match z with
  | .tup xs => xs.length = n ∧ gs xs ρ x G Q
  | _ => False
section
variable {X : Cx} {W : WX} {vs : List Nat} {pos : Pos}
theorem pdg_of_name {i : Nat} {e : Expr} (h : PG X e (gName i)) (hm : i ∈ vs) : PDG X W vs e (gdName i) := PG.imp h fun v σ H Q ⟨Z, z, ρ, x, G, Qd, dz, sr, hr, q, c, xo⟩ =>
  c _ _ G H (Fr.refl G H) hr (sr.set dz i) (wipe_set hm) q
theorem pdg_name (i : Nat) {x : Str} (hN : X.N.Nodup) (hi : X.N[i]? = some x := by rfl) (hx : Loc X.env.scope x := by first | exact Or.inl rfl | exact Or.inr rfl) (hf : X.fn x = true ∨ X.env.scope.names.lookup x = some .local := by first | exact .inl rfl | exact .inr rfl)
    (hm : i ∈ vs := by decide) : PDG X W vs (.Name x pos) (gdName i) := pdg_of_name (pg_name hN hi hx hf) hm
theorem pdgs_nil : PDGs X W vs [] gdNil := PGs.imp pgs_nil fun us σ H Q ⟨Z, zs, ρ, x, G, Qd, dz, sr, hr, ⟨e, q⟩, c, xo⟩ => by
  subst e
  cases dz
  exact ⟨rfl, c _ _ G H (Fr.refl G H) hr sr rfl q⟩
theorem XOk.slots {K : PySem.W.Frag} {Z : Addr → Prop} {W : WX} {G : GH} {H : Hp} {σ : L2.St} {x : XD} (h : XOk K Z W G H σ x) : XOk K Z (fun c d _ H' => W c d σ H') G H σ x := h
theorem pdgs_cons {e : Expr} {es : List Expr} {g : DG} {gs : DGs} (h1 : PDG X (fun _ _ _ _ => False) vs e g) (h2 : PDGs X (fun _ _ _ _ => False) vs es gs)
    (hs : (assignEach (e :: es) X.env).map (·.2) = assign e X.env :: (assignEach es X.env).map (·.2) := by rfl) : PDGs X (fun _ _ _ _ => False) vs (e :: es) (gdCons g gs) :=
  PGs.imp (pgs_cons h1 h2 hs) fun us σ H Q ⟨Z, zs, ρ, x, G, Qd, dz, sr, hr, q, c, xo⟩ => by
    cases dz with
    | nil => exact q.elim
    | cons d1 d2 => exact ⟨_, _, rfl, Z, _, ρ, x, G, _, d1, sr, hr, q, fun ρ1 σ1 G1 H1 f1 r1 s1 w1 q1 => ⟨Z, _, ρ1, x, G1, Qd, d2.mono f1, s1, r1, q1, fun ρ2 σ2 G2 H2 f2 r2 s2 w2 q2 => c ρ2 σ2 G2 H2 (f1.trans f2) r2 s2 (w2.trans w1) q2, xo.mono f1⟩, xo⟩
theorem pdg_tup {es : List Expr} {k : Nat} {gs : DGs} {n : Nat} (hc : X.calm = true) (h : PDGs X (fun _ _ _ _ => False) vs es gs) (hn : (assignEach es X.env).length = n := by rfl) (hst : (assignEach es X.env).findIdx? (·.1) = none := by rfl) :
    PDG X (fun _ _ _ _ => False) vs (.Tuple es k pos) (gdTup gs n) := PG.imp (pg_tup hc h hn hst) fun v σ H Q ⟨Z, z, ρ, x, G, Qd, dz, sr, hr, q, c, xo⟩ => by
  cases dz with
  | tup n1 g1 h1 z1 r1 => exact ⟨_, _, rfl, SqT.of h1, by rw [← r1.length]; exact q.1, Z, _, ρ, x, G, Qd, r1, sr, hr, q.2, c, xo⟩
  | _ => exact q.elim
end

/-! ### statements -/
def dNext : DS := fun D ρ G => D.nx ρ G
def dSeq (s t : DS) : DS := fun D ρ G => s { D with nx := t D } ρ G
def dAsg (a : DE) (g : DG) : DS := fun D ρ G => a ρ (D.xx ρ) G fun z G1 => g z ρ (fun _ _ _ => False) G1 D.nx
def dRet (a : DE) : DS := fun D ρ G => a ρ (D.xx ρ) G D.rt
def dRetN : DS := fun D _ G => D.rt .non G
def dDrop (a : DE) : DS := fun D ρ G => a ρ (D.xx ρ) G fun _ G1 => D.nx ρ G1
def dIfS (c : DT) (s t : DS) : DS := fun D ρ G => c ρ (D.xx ρ) G fun k G1 => if k = true then s D ρ G1 else t D ρ G1
def dBreak : DS := fun D ρ G => D.bk ρ G
def dCont : DS := fun D ρ G => D.ct ρ G
abbrev WF : WX := fun _ _ _ _ => False
abbrev XF : XD := fun _ _ _ => False
theorem XOk.f {K : PySem.W.Frag} {Z : Addr → Prop} {W : WX} {G : GH} {H : Hp} {σ : L2.St} : XOk K Z W G H σ XF := fun _ _ _ _ _ _ _ _ _ _ _ q => q.elim
section
variable {X : Cx} {W : WX} {st : Stmt} {rest body : List Stmt} {e c tg : Expr} {s t : DS} {a : DE} {g : DG} {ct : DT} {pos : Pos}
theorem EndsOk.xo {K : PySem.W.Frag} {Z : Addr → Prop} {G : GH} {H : Hp} {Dd : DEnds} {E : Ends} {ρ : Rho} {σ : L2.St} (h : EndsOk K Z W G H Dd E) (sr : SR K Z G H ρ σ) : XOk K Z W G H σ (Dd.xx ρ) := h.xx ρ σ G H (Fr.refl G H) sr
theorem pdss_nil : PDSs X W [] dNext := PSs.imp pss_nil fun E σ H ⟨Z, ρ, G, Dd, sr, hr, h, ok⟩ => ok.nx ρ σ G H (Fr.refl G H) hr sr h
theorem low_seq {K : PySem.W.Frag} : ∀ E σ H, lowS K W (dSeq s t) E σ H → tSeq (lowS K W s) (lowS K W t) E σ H := fun E σ H ⟨Z, ρ, G, Dd, sr, hr, h, ok⟩ =>
  ⟨Z, ρ, G, _, sr, hr, h, ⟨fun ρ1 σ1 G1 H1 f1 r1 s1 q1 => ⟨Z, ρ1, G1, Dd, s1, r1, q1, ok.mono f1⟩, ok.rt, ok.bk, ok.ct, ok.xx⟩⟩
theorem pdss_cons (h1 : PDS X W st s) (h2 : PDSs X W rest t) : PDSs X W (st :: rest) (dSeq s t) := PSs.imp (pss_cons h1 h2) low_seq
theorem pdss_one (h1 : PDS X W st s) : PDSs X W [st] s := pss_one h1
theorem pds_pass : PDS X W (.Pass pos) dNext := PS.imp ps_pass fun E σ H ⟨Z, ρ, G, Dd, sr, hr, h, ok⟩ => ok.nx ρ σ G H (Fr.refl G H) hr sr h
theorem pds_break : PDS X W (.Break pos) dBreak := PS.imp ps_break fun E σ H ⟨Z, ρ, G, Dd, sr, hr, h, ok⟩ => ok.bk ρ σ G H (Fr.refl G H) hr sr h
theorem pds_continue : PDS X W (.Continue pos) dCont := PS.imp ps_continue fun E σ H ⟨Z, ρ, G, Dd, sr, hr, h, ok⟩ => ok.ct ρ σ G H (Fr.refl G H) hr sr h
theorem pds_ret (ha : PD X W e a) : PDS X W (.Return (some e) pos) (dRet a) := PS.imp (ps_ret ha) fun E σ H ⟨Z, ρ, G, Dd, sr, hr, h, ok⟩ => ⟨Z, ρ, Dd.xx ρ, G, _, sr, hr, h, ok.rt, ok.xo sr⟩
theorem pds_retN : PDS X W (.Return none pos) dRetN := PS.imp ps_retN fun E σ H ⟨Z, ρ, G, Dd, sr, hr, h, ok⟩ => ok.rt .non .non G H (Fr.refl G H) hr .non h
theorem pds_expr (ha : PD X W e a) (hs : swapsWith e none pos.line X.env = pure false := by rfl) : PDS X W (.Expr e pos) (dDrop a) := PS.imp (ps_expr ha hs) fun E σ H ⟨Z, ρ, G, Dd, sr, hr, h, ok⟩ =>
  ⟨Z, ρ, Dd.xx ρ, G, _, sr, hr, h, fun z v G1 H1 f1 r1 d1 q1 => ok.nx ρ σ G1 H1 f1 r1 (sr.mono f1) q1, ok.xo sr⟩
theorem pds_if {p q : List Stmt} (hc : PDT X W c ct) (hp : PDSs X W p s) (hq : PDSs X W q t) : PDS X W (.If c p q pos) (dIfS ct s t) := PS.imp (ps_if hc hp hq) fun E σ H ⟨Z, ρ, G, Dd, sr, hr, h, ok⟩ =>
  ⟨Z, ρ, Dd.xx ρ, G, _, sr, hr, h, fun k G1 H1 f1 r1 q1 => by
    cases k with
    | true => exact ⟨Z, ρ, G1, Dd, sr.mono f1, r1, q1, ok.mono f1⟩
    | false => exact ⟨Z, ρ, G1, Dd, sr.mono f1, r1, q1, ok.mono f1⟩, ok.xo sr⟩
theorem low_asg {K : PySem.W.Frag} {vs : List Nat} : ∀ E σ H, lowS K W (dAsg a g) E σ H → tAsg (lowE K W a) (lowG K WF vs g) E σ H := fun E σ H ⟨Z, ρ, G, Dd, sr, hr, h, ok⟩ =>
  ⟨Z, ρ, Dd.xx ρ, G, _, sr, hr, h, fun z v G1 H1 f1 r1 d1 q1 => ⟨Z, z, ρ, XF, G1, _, d1, sr.mono f1, r1, q1, fun ρ2 σ2 G2 H2 f2 r2 s2 _ q2 => ok.nx ρ2 σ2 G2 H2 (f1.trans f2) r2 s2 q2, XOk.f⟩, ok.xo sr⟩
theorem pds_asg {vs : List Nat} (ha : PD X W e a) (hg : PDG X WF vs tg g) (hs : swapsWithSole [tg] e pos.line X.env = pure false := by rfl) (hw : swappedStores [tg] e X.env = pure none := by rfl)
    (h1 : (assignEach [tg] X.env).map (·.2) = [assign tg X.env] := by rfl) : PDS X W (.Assign [tg] e pos) (dAsg a g) := PS.imp (ps_asg ha hg hs hw h1) low_asg
/-- name = e -/
theorem low_set {K : PySem.W.Frag} {i : Nat} : ∀ E σ H, lowS K W (dAsg a (gdName i)) E σ H → tAsg (lowE K W a) (gName i) E σ H := fun E σ H ⟨Z, ρ, G, Dd, sr, hr, h, ok⟩ =>
  ⟨Z, ρ, Dd.xx ρ, G, _, sr, hr, h, fun z v G1 H1 f1 r1 d1 q1 => ok.nx _ _ G1 H1 f1 r1 ((sr.mono f1).set d1 i) q1, ok.xo sr⟩
theorem pds_set (i : Nat) {x : Str} {pos' : Pos} (hN : X.N.Nodup) (ha : PD X W e a) (hi : X.N[i]? = some x := by rfl) (hx : Loc X.env.scope x := by first | exact Or.inl rfl | exact Or.inr rfl) (hs : swapsWith e (some (.Name x pos')) pos.line X.env = pure false := by rfl)
    (hf : X.fn x = true ∨ X.env.scope.names.lookup x = some .local := by first | exact .inl rfl | exact .inr rfl) : PDS X W (.Assign [.Name x pos'] e pos) (dAsg a (gdName i)) := PS.imp (ps_set hN hi hx ha hs hf) low_set
/-- x += e, x -= e of ints -/
def dAug (i : Nat) (a : DE) (f : Int → Int → Int) : DS := fun D ρ G => ∃ n, ρ[i]? = some (some (.int n)) ∧ a ρ (D.xx ρ) G fun y G1 => ∃ m, y = .int m ∧ D.nx (ρ.set i (some (.int (f n m)))) G1
theorem low_aug {K : PySem.W.Frag} {i : Nat} {f : Int → Int → Int} : ∀ E σ H, lowS K W (dAug i a f) E σ H → tAug i (lowE K W a) (ipI f) E σ H := fun E σ H ⟨Z, ρ, G, Dd, sr, hr, ⟨n, e, h⟩, ok⟩ => by
  obtain ⟨v, e1, d⟩ := sr.at_ i _ e
  cases d
  exact ⟨_, e1, Z, ρ, Dd.xx ρ, G, _, sr, hr, h, fun y v G1 H1 f1 r1 d1 ⟨m, em, q⟩ => by
    subst em
    cases d1
    exact ⟨_, _, rfl, rfl, ok.nx _ _ G1 H1 f1 r1 ((sr.mono f1).set (.int _) i) q⟩, ok.xo sr⟩
theorem pds_aug (i : Nat) {x : Str} {op : Operator} {f : Int → Int → Int} {pos' : Pos} (hN : X.N.Nodup) (ho : PIp X op (ipI f)) (ha : PD X W e a) (hi : X.N[i]? = some x := by rfl) (hx : Loc X.env.scope x := by first | exact Or.inl rfl | exact Or.inr rfl)
    (hf : X.fn x = true ∨ X.env.scope.names.lookup x = some .local := by first | exact .inl rfl | exact .inr rfl) : PDS X W (.AugAssign (.Name x pos') op e pos) (dAug i a f) := PS.imp (ps_aug hN hi hx ha ho hf) low_aug
/-- a, b = x, y: two local names -/
def dPar (i j : Nat) (a b : DE) : DS := fun D ρ G => a ρ (D.xx ρ) G fun z G1 => b ρ (D.xx ρ) G1 fun y G2 => D.nx ((ρ.set i (some z)).set j (some y)) G2
theorem pds_par (i j : Nat) {x y : Str} {e1 e2 : Expr} {b : DE} {px py pt : Pos} {kt k2 pt2} (hc : X.calm = true) (hN : X.N.Nodup) (ha : PD X W e1 a) (hb : PD X W e2 b) (hi : X.N[i]? = some x := by rfl) (hj : X.N[j]? = some y := by rfl) (hij : i ≠ j := by decide)
    (hx : X.env.scope.names.lookup x = some .local := by rfl) (hy : X.env.scope.names.lookup y = some .local := by rfl)
    (hw : swappedStores [.Tuple [.Name x px, .Name y py] kt pt] (.Tuple [e1, e2] k2 pt2) X.env = pure (some [x, y]) := by rfl)
    (hs : swapsWithSole [.Tuple [.Name x px, .Name y py] kt pt] (.Tuple [e1, e2] k2 pt2) pos.line X.env = pure false := by rfl)
    (hs1 : starEach (e1 :: [e2]) X.env = (false, eval e1 X.env) :: starEach [e2] X.env := by rfl) (hs2 : starEach (e2 :: []) X.env = (false, eval e2 X.env) :: starEach [] X.env := by rfl) :
    PDS X W (.Assign [.Tuple [.Name x px, .Name y py] kt pt] (.Tuple [e1, e2] k2 pt2) pos) (dPar i j a b) :=
  PS.imp (ps_par hc hN hi hj hij hx hy (pa_cons ha (pa_cons hb pa_nil hs2) hs1) hw hs) fun E σ H ⟨Z, ρ, G, Dd, sr, hr, h, ok⟩ =>
    ⟨Z, ρ, Dd.xx ρ, G, _, sr, hr, h, fun z v G1 H1 f1 r1 d1 q1 => ⟨Z, ρ, Dd.xx ρ, G1, _, sr.mono f1, r1, q1, fun y u G2 H2 f2 r2 d2 q2 => ⟨v, u, rfl, ok.nx _ _ G2 H2 (f1.trans f2) r2 (((sr.mono (f1.trans f2)).set (d1.mono f2) i).set d2 j) q2⟩, (ok.xo sr).mono f1⟩, ok.xo sr⟩
end

/-! ### what is walked -/
structure ItOk (K : PySem.W.Frag) (Z : Addr → Prop) (J : It) (items : List D) (G0 : GH) (H0 : Hp) (Gd : GH → Prop) : Prop where
  sz : items.length ≤ sizeLine
  go : ∀ (Z' : Addr → Prop) i G H, (∀ a, H0 a ≠ none → Z' a → Z a) → Fr G0 H0 G H → HR K Z' G H → Gd G → i < items.length → J.go i H
  stop : ∀ (Z' : Addr → Prop) G H, (∀ a, H0 a ≠ none → Z' a → Z a) → Fr G0 H0 G H → HR K Z' G H → Gd G → J.stop items.length H
  yld : ∀ (Z' : Addr → Prop) i G H x H', (∀ a, H0 a ≠ none → Z' a → Z a) → Fr G0 H0 G H → HR K Z' G H → Gd G → i < items.length → J.yld i H x H' → ∃ d, items[i]? = some d ∧ Fr G H G H' ∧ HR K Z' G H' ∧ DV K Z' G H' d x
abbrev DI := Rho → XD → GH → (List D → (GH → Prop) → GH → Prop) → Prop
def lowI (K : PySem.W.Frag) (W : WX) (d : DI) : TI := fun σ H R => ∃ (Z : Addr → Prop) (ρ : Rho) (x : XD) (G : GH) (Qd : List D → (GH → Prop) → GH → Prop), SR K Z G H ρ σ ∧ HR K Z G H ∧ d ρ x G Qd ∧
  (∀ items Gd G' H' J, Fr G H G' H' → HR K Z G' H' → ItOk K Z J items G' H' Gd → Qd items Gd G' → R J H') ∧ XOk K Z W G H σ x
abbrev PDI (X : Cx) (W : WX) (tg e : Expr) (d : DI) : Prop := PI X tg e (lowI X.K W d)
theorem PI.imp {X : Cx} {tg e : Expr} {t t' : TI} (h : PI X tg e t) (i : ∀ σ H Q, t' σ H Q → t σ H Q) : PI X tg e t' := ⟨fun pins s σ H Q I q => h.run pins s σ H Q I (i σ H Q q)⟩
def dLoop (Gd : GH → Prop) (g : DG) (body : DS) (E : DEnds) : List D → Rho → GH → Prop
  | [], ρ, G => Gd G ∧ E.nx ρ G
  | d :: r, ρ, G => Gd G ∧ g d ρ (fun _ _ _ => False) G fun ρ2 G2 => body { E with nx := dLoop Gd g body E r, ct := dLoop Gd g body E r, bk := E.nx } ρ2 G2
def dFor (di : DI) (g : DG) (body : DS) : DS := fun D ρ G => di ρ (D.xx ρ) G fun items Gd G1 => dLoop Gd g body D items ρ G1
theorem low_for {K : PySem.W.Frag} {W : WX} {di : DI} {g : DG} {body : DS} {vs : List Nat} : ∀ E σ H, lowS K W (dFor di g body) E σ H → tFor (lowI K W di) (lowG K WF vs g) (lowS K W body) E σ H := fun E σ H ⟨Z, ρ, G, Dd, sr, hr, h, ok⟩ =>
  ⟨Z, ρ, Dd.xx ρ, G, _, sr, hr, h, fun items Gd G1 H1 J f1 r1 it q1 => by
    refine ⟨fun i m σ' H' => m = items.length - i ∧ i ≤ items.length ∧ ∃ ρ' G', Fr G1 H1 G' H' ∧ HR K Z G' H' ∧ SR K Z G' H' ρ' σ' ∧ dLoop Gd g body Dd (items.drop i) ρ' G', ⟨items.length, by simp, Nat.zero_le _, ρ, G1, Fr.refl G1 H1, r1, sr.mono f1, by simpa using q1⟩, ?_⟩
    rintro i m σ2 H2 ⟨rfl, hi, ρ2, G2, f2, r2, s2, q2⟩
    by_cases hlt : i < items.length
    · have e := List.drop_eq_getElem_cons hlt
      rw [e] at q2
      obtain ⟨gd, q2⟩ := q2
      refine .inr ⟨it.go Z i G2 H2 (fun _ _ z => z) f2 r2 gd hlt, fun σ' H' => ∃ ρ' G', Fr G1 H1 G' H' ∧ HR K Z G' H' ∧ SR K Z G' H' ρ' σ' ∧ dLoop Gd g body Dd (items.drop (i + 1)) ρ' G', fun σ' H' hh => ⟨items.length - (i + 1), by omega, rfl, hlt, hh⟩, fun x H3 y => ?_⟩
      obtain ⟨d, ed, f3, r3, d3⟩ := it.yld Z i G2 H2 x H3 (fun _ _ z => z) f2 r2 gd hlt y
      have e2 : items[i] = d := by
        rw [List.getElem?_eq_getElem hlt] at ed
        exact Option.some.inj ed
      rw [e2] at q2
      refine ⟨Z, d, ρ2, XF, G2, _, d3, s2.mono f3, r3, q2, fun ρ4 σ4 G4 H4 f4 r4 s4 _ q4 => ⟨Z, ρ4, G4, _, s4, r4, q4, ?_⟩, XOk.f⟩
      have f5 : Fr G1 H1 G4 H4 := f2.trans (f3.trans f4)
      have ok5 := ok.mono (f1.trans f5)
      exact ⟨fun ρ' σ' G' H' f' r' s' q' => ⟨ρ', G', f5.trans f', r', s', q'⟩, ok5.rt, ok5.nx, fun ρ' σ' G' H' f' r' s' q' => ⟨ρ', G', f5.trans f', r', s', q'⟩, ok5.xx⟩
    · have e : i = items.length := by omega
      subst e
      rw [List.drop_length] at q2
      exact .inl ⟨it.stop Z G2 H2 (fun _ _ z => z) f2 r2 q2.1, ok.nx ρ2 σ2 G2 H2 (f1.trans f2) r2 s2 q2.2⟩, ok.xo sr⟩
theorem pds_for {X : Cx} {W : WX} {tg iter : Expr} {body : List Stmt} {di : DI} {g : DG} {b : DS} {vs : List Nat} {pos : Pos} (hp : PassesOwn (model X.prog X.w) X.A X.env X.xe) (hc : X.calm = true) (hi : PDI X W tg iter di) (hg : PDG X WF vs tg g) (hb : PDSs X W body b)
    (hs : ∀ x, foldedSetIterable iter X.env x = pure x := by intro _; rfl) : PDS X W (.For tg iter body [] pos) (dFor di g b) := PS.imp (ps_for hp hc hi hg hb hs) low_for

/-! ### comprehensions -/
def dwipe (ρ : Rho) : List Nat → Rho
  | [] => ρ
  | v :: vs => (dwipe ρ vs).set v none
theorem SR.wipe {K : PySem.W.Frag} {Z : Addr → Prop} {G : GH} {H : Hp} {ρ : Rho} {σ : L2.St} (h : SR K Z G H ρ σ) : ∀ vs : List Nat, SR K Z G H (dwipe ρ vs) (L2.wipe σ vs)
  | [] => h
  | v :: vs => (SR.wipe h vs).unset none v
def dComp (Gd : GH → Prop) (g : DG) (t : DT) (e : DE) (ρ : Rho) (Q : DK) : List D → List D → GH → Prop
  | [], acc, G => Gd G ∧ Q (.lst acc) G
  | d :: r, acc, G => Gd G ∧ g d ρ (fun _ _ _ => False) G fun ρ2 G2 => t ρ2 (fun _ _ _ => False) G2 fun b G3 => if b = true then e ρ2 (fun _ _ _ => False) G3 (fun y G4 => dComp Gd g t e ρ Q r (acc ++ [y]) G4) else dComp Gd g t e ρ Q r acc G3
def dLc (di : DI) (g : DG) (t : DT) (e : DE) (vs : List Nat) : DE := fun ρ x G Q => di ρ x G fun items Gd G1 => dComp Gd g t e (dwipe ρ vs) Q items [] G1
/-! the hidden list changes: no value sees it -/
section
variable {K : PySem.W.Frag} {Z : Addr → Prop} {G : GH} {H : Hp} {D0 : Addr} {ws : List V} {o : HO}
theorem z_ne {a : Addr} (hz : Z D0) (nz : ¬ Z a) : a ≠ D0 := fun e => nz (by rw [e]; exact hz)
mutual
theorem DV.hid (hz : Z D0) (hd : H D0 = some (.lst ws)) : ∀ {d : D} {v : V}, DV K Z G H d v → DV K Z G (upd H D0 o) d v
  | _, _, .non => .non
  | _, _, .bl b => .bl b
  | _, _, .int i => .int i
  | _, _, .str x => .str x
  | _, _, .ref a => .ref a
  | _, _, .ty n => .ty n
  | _, _, .dic nz g h => .dic nz g (by rw [upd_ne (z_ne hz nz)]; exact h)
  | _, _, .tup nz g h z r => .tup nz g (by rw [upd_ne (z_ne hz nz)]; exact h) z (DVs.hid hz hd r)
  | _, _, .lst nz g h z r => .lst nz g (by rw [upd_ne (z_ne hz nz)]; exact h) z (DVs.hid hz hd r)
  | _, _, .scr h z => .scr (by
      rcases h with ⟨g, nz, h⟩ | h
      · refine .inl ⟨g, nz, ?_⟩
        unfold Rd at h ⊢
        rw [upd_ne (z_ne hz nz)]
        exact h
      · exact .inr h) z
theorem DVs.hid (hz : Z D0) (hd : H D0 = some (.lst ws)) : ∀ {ds : List D} {vs : List V}, DVs K Z G H ds vs → DVs K Z G (upd H D0 o) ds vs
  | _, _, .nil => .nil
  | _, _, .cons a b => .cons (DV.hid hz hd a) (DVs.hid hz hd b)
end
theorem PairD.hid {κ : Type} (hz : Z D0) (hd : H D0 = some (.lst ws)) : ∀ {l : List (κ × D)} {m : List (κ × V)}, PairD K Z G H l m → PairD K Z G (upd H D0 o) l m
  | _, _, .nil => .nil
  | _, _, .cons a b => .cons ⟨a.1, a.2.hid hz hd⟩ (PairD.hid hz hd b)
theorem HR.hidden {us : List V} (h : HR K Z G H) (hz : Z D0) (hd : H D0 = some (.lst ws)) : HR K Z G (upd H D0 (.lst us)) := by
  refine ⟨fun a m q => ?_, fun a q => ?_⟩
  · have ne : a ≠ D0 := fun e => by
      have := (h.hid D0 hz).2
      rw [e, this] at q
      cases q
    have r := h.at_ a m q
    have e : upd H D0 (.lst us) a = H a := upd_ne ne
    cases m with
    | lst ds => obtain ⟨vs, h1, h2, h3⟩ := r; exact ⟨vs, e.trans h1, h2.hid hz hd, h3⟩
    | dK ds => obtain ⟨vs, h1, h2⟩ := r; exact ⟨vs, e.trans h1, h2.hid hz hd⟩
    | dT ds => obtain ⟨vs, h1, h2⟩ := r; exact ⟨vs, e.trans h1, h2.hid hz hd⟩
    | fK o' ks ds => obtain ⟨h1, h2⟩ := r; exact ⟨e.trans h1, h2.hid hz hd⟩
    | fT o' ks ds => obtain ⟨h1, h2⟩ := r; exact ⟨e.trans h1, h2.hid hz hd⟩
    | ins C fs => obtain ⟨dx, fv, h1, h2⟩ := r; exact ⟨dx, fv, e.trans h1, h2.hid hz hd⟩
    | tab q =>
      obtain ⟨ps, h1, h2, h3⟩ := r
      refine ⟨ps, e.trans h1, h2, fun pos cv hc => ?_⟩
      obtain ⟨c, e1, e2, e3⟩ := h3 pos cv hc
      refine ⟨c, e1, ?_, e3⟩
      rw [upd_ne]
      · exact e2
      · intro z
        rw [z, hd] at e2
        unfold LamX.CodeO at e2
        cases e2
  · obtain ⟨h1, h2⟩ := h.hid a q
    refine ⟨?_, h2⟩
    by_cases e : a = D0
    · rw [e, upd_same]; exact ⟨us, rfl⟩
    · rw [upd_ne e]; exact h1
end
/-! one more hidden place -/
section
variable {K : PySem.W.Frag} {Z Z' : Addr → Prop} {G : GH} {H : Hp}
mutual
theorem DV.zmono (hz : ∀ a, H a ≠ none → Z' a → Z a) : ∀ {d : D} {v : V}, DV K Z G H d v → DV K Z' G H d v
  | _, _, .non => .non
  | _, _, .bl b => .bl b
  | _, _, .int i => .int i
  | _, _, .str x => .str x
  | _, _, .ref a => .ref a
  | _, _, .ty n => .ty n
  | _, _, .dic nz g h => .dic (fun q => nz (hz _ (by rcases h with ⟨_, h⟩ | ⟨_, h⟩ <;> (rw [h]; exact fun z => nomatch z)) q)) g h
  | _, _, .tup nz g h z r => .tup (fun q => nz (hz _ (by rw [h]; exact fun z => nomatch z) q)) g h z (DVs.zmono hz r)
  | _, _, .lst nz g h z r => .lst (fun q => nz (hz _ (by rw [h]; exact fun z => nomatch z) q)) g h z (DVs.zmono hz r)
  | _, _, .scr h z => .scr (h.zmono hz) z
theorem DVs.zmono (hz : ∀ a, H a ≠ none → Z' a → Z a) : ∀ {ds : List D} {vs : List V}, DVs K Z G H ds vs → DVs K Z' G H ds vs
  | _, _, .nil => .nil
  | _, _, .cons a b => .cons (DV.zmono hz a) (DVs.zmono hz b)
end
theorem PairD.zmono {κ : Type} (hz : ∀ a, H a ≠ none → Z' a → Z a) : ∀ {l : List (κ × D)} {m : List (κ × V)}, PairD K Z G H l m → PairD K Z' G H l m
  | _, _, .nil => .nil
  | _, _, .cons a b => .cons ⟨a.1, a.2.zmono hz⟩ (PairD.zmono hz b)
theorem MR.zmono (hz : ∀ a, H a ≠ none → Z' a → Z a) {a : Addr} {m : MO} (r : MR K Z G H a m) : MR K Z' G H a m := by
  cases m with
  | lst ds => obtain ⟨vs, h1, h2, h3⟩ := r; exact ⟨vs, h1, h2.zmono hz, h3⟩
  | dK ds => obtain ⟨vs, h1, h2⟩ := r; exact ⟨vs, h1, h2.zmono hz⟩
  | dT ds => obtain ⟨vs, h1, h2⟩ := r; exact ⟨vs, h1, h2.zmono hz⟩
  | fK o' ks ds => obtain ⟨h1, h2⟩ := r; exact ⟨h1, h2.zmono hz⟩
  | fT o' ks ds => obtain ⟨h1, h2⟩ := r; exact ⟨h1, h2.zmono hz⟩
  | ins C fs => obtain ⟨dx, fv, h1, h2⟩ := r; exact ⟨dx, fv, h1, h2.zmono hz⟩
  | tab q => exact r
theorem SR.zmono (hz : ∀ a, H a ≠ none → Z' a → Z a) {ρ : Rho} {σ : L2.St} (s : SR K Z G H ρ σ) : SR K Z' G H ρ σ :=
  ⟨s.len, fun i d e => let ⟨v, a, b⟩ := s.at_ i d e; ⟨v, a, b.zmono hz⟩⟩
end
theorem wipe_wipe (σ : L2.St) (vs : List Nat) : L2.wipe (L2.wipe σ vs) vs = L2.wipe σ vs := by
  have aux : ∀ (ws : List Nat) (τ : L2.St), (∀ v ∈ ws, v ∈ vs) → L2.wipe (L2.wipe τ ws) vs = L2.wipe τ vs := by
    intro ws
    induction ws with
    | nil => intro τ _; rfl
    | cons w ws ih =>
      intro τ hw
      show L2.wipe ((L2.wipe τ ws).set w none) vs = _
      rw [wipe_set (hw w List.mem_cons_self)]
      exact ih τ fun v hv => hw v (List.mem_cons_of_mem _ hv)
  exact aux vs σ fun _ h => h
theorem low_lc {K : PySem.W.Frag} {W : WX} {di : DI} {g : DG} {t : DT} {e : DE} {vs : List Nat} : ∀ σ H Q, lowE K W (dLc di g t e vs) σ H Q → tLc (lowI K W di) (lowG K WF vs g) (lowT K WF t) (lowE K WF e) vs σ H Q := fun σ H Q ⟨Z, ρ, x, G, Qd, sr, hr, h, c, xo⟩ =>
  ⟨Z, ρ, x, G, _, sr, hr, h, fun items Gd G1 H1 J f1 r1 it q1 Dl hD => by
    -- the new list is hidden while it grows
    let Z' : Addr → Prop := fun a => Z a ∨ a = Dl
    have zz : ∀ {H2 : Hp} {a : Addr}, Z a → Z' a := fun h => .inl h
    have up1 : ∀ a, H1 a ≠ none → Z' a → Z a := fun a ha q => q.elim (fun z => z) fun e => absurd hD (e ▸ ha)
    have gD : G1 Dl = none := r1.free hD
    have fN : Fr G1 H1 G1 (upd H1 Dl (.lst [])) := Fr.new hD
    have r1' : HR K Z' G1 (upd H1 Dl (.lst [])) := by
      refine ⟨fun a m q => ?_, fun a q => ?_⟩
      · exact ((r1.at_ a m q).zmono up1).keep fN (upd_ne fun z => (r1.at_ a m q).some (z ▸ hD))
      · rcases q with q | q
        · exact hid_mono fN (r1.hid a q)
        · rw [q, upd_same]
          exact ⟨⟨_, rfl⟩, gD⟩
    have back : ∀ {G2 : GH} {H2 : Hp}, HR K Z' G2 H2 → HR K Z G2 H2 := fun r => ⟨fun a m q => (r.at_ a m q).zmono fun _ _ z => .inl z, fun a z => r.hid a (.inl z)⟩
    -- the slots within
    have sW : SR K Z' G1 (upd H1 Dl (.lst [])) (dwipe ρ vs) (L2.wipe σ vs) := (((sr.mono f1).zmono up1).mono fN).wipe vs
    refine ⟨fun i m H' => m = items.length - i ∧ i ≤ items.length ∧ ∃ G' acc accV, Fr G1 H1 G' H' ∧ HR K Z' G' H' ∧ SR K Z' G' H' (dwipe ρ vs) (L2.wipe σ vs) ∧ H' Dl = some (.lst accV) ∧ DVs K Z' G' H' acc accV ∧ accV.length ≤ i ∧ dComp Gd g t e (dwipe ρ vs) Qd (items.drop i) acc G',
      ⟨items.length, by simp, Nat.zero_le _, G1, [], [], fN, r1', sW, upd_same, .nil, Nat.le_refl _, by simpa using q1⟩, ?_⟩
    rintro i m H2 ⟨rfl, hi, G2, acc, accV, f2, r2, s2, hd2, da, la, q2⟩
    by_cases hlt : i < items.length
    · have ed := List.drop_eq_getElem_cons hlt
      rw [ed] at q2
      obtain ⟨gd, q2⟩ := q2
      refine .inr ⟨it.go Z' i G2 H2 up1 f2 r2 gd hlt, fun H' => ∃ G' acc accV, Fr G1 H1 G' H' ∧ HR K Z' G' H' ∧ SR K Z' G' H' (dwipe ρ vs) (L2.wipe σ vs) ∧ H' Dl = some (.lst accV) ∧ DVs K Z' G' H' acc accV ∧ accV.length ≤ i + 1 ∧ dComp Gd g t e (dwipe ρ vs) Qd (items.drop (i + 1)) acc G',
        fun H' hh => ⟨items.length - (i + 1), by omega, rfl, hlt, hh⟩, fun x3 H3 y => ?_⟩
      obtain ⟨d, edd, f3, r3, d3⟩ := it.yld Z' i G2 H2 x3 H3 up1 f2 r2 gd hlt y
      have e2 : items[i] = d := by
        rw [List.getElem?_eq_getElem hlt] at edd
        exact Option.some.inj edd
      rw [e2] at q2
      refine ⟨Z', d, _, XF, G2, _, d3, s2.mono f3, r3, q2, fun ρ4 σ4 G4 H4 f4 r4 s4 w4 q4 => ⟨w4.trans (wipe_wipe σ vs), Z', ρ4, XF, G4, _, s4, r4, q4, fun b G5 H5 f5 r5 q5 => ?_, XOk.f⟩, XOk.f⟩
      have fA : Fr G1 H1 G5 H5 := f2.trans (f3.trans (f4.trans f5))
      have hd5 : ∀ {G6 : GH} {H6 : Hp}, Fr G5 H5 G6 H6 → H6 Dl = some (.lst accV) := fun f6 =>
        ((f3.trans (f4.trans (f5.trans f6))) Dl _ hd2 (r2.hid Dl (.inr rfl)).2).1
      have sl : ∀ {G6 : GH} {H6 : Hp}, Fr G5 H5 G6 H6 → SR K Z' G6 H6 (dwipe ρ vs) (L2.wipe σ vs) := fun f6 => s2.mono (f3.trans (f4.trans (f5.trans f6)))
      cases b with
      | false => exact ⟨G5, acc, accV, fA, r5, sl (Fr.refl _ _), hd5 (Fr.refl _ _), da.mono (f3.trans (f4.trans f5)), Nat.le_succ_of_le la, q5⟩
      | true =>
        refine ⟨Z', ρ4, XF, G5, _, s4.mono f5, r5, q5, fun y2 u2 G6 H6 f6 r6 d6 q6 => ⟨accV, hd5 f6, Nat.lt_of_le_of_lt la (Nat.lt_of_lt_of_le hlt it.sz), ?_⟩, XOk.f⟩
        have h6 := hd5 f6
        refine ⟨G6, acc ++ [y2], accV ++ [u2], fun b o hb hn => ?_, r6.hidden (.inr rfl) h6, ?_, upd_same, ?_, ?_, q6⟩
        · have nb : b ≠ Dl := ne_of_none hb hD
          rw [upd_ne nb]
          exact (fA.trans f6) b o hb hn
        · exact ⟨(sl f6).len, fun j e ej => let ⟨v, a, b⟩ := (sl f6).at_ j e ej; ⟨v, a, b.hid (.inr rfl) h6⟩⟩
        · exact ((da.mono (f3.trans (f4.trans (f5.trans f6)))).append (.cons d6 .nil)).hid (.inr rfl) h6
        · rw [List.length_append, List.length_singleton]
          exact Nat.succ_le_succ la
    · have ei : i = items.length := by omega
      subst ei
      rw [List.drop_length] at q2
      refine .inl ⟨it.stop Z' G2 H2 up1 f2 r2 q2.1, ?_⟩
      have gD2 : G2 Dl = none := (r2.hid Dl (.inr rfl)).2
      have nZ : ¬ Z Dl := r1.noZ hD
      exact c (.lst acc) (.ref Dl) G2 H2 (f1.trans f2) (back r2) (.lst nZ gD2 hd2 (Nat.le_trans la it.sz) (da.zmono fun _ _ z => .inl z)) q2.2, xo⟩
end TD
/-! # TD, 6: enumerate and zip over tuples and lists in any mix -/
namespace TD
open PySem PySem.Spec PyProof.Rows L2
/-! ### enumerate(v) begins -/
theorem meets_enumerate_new1 {v : Value} {o : Obj} {H : Heap → Prop} (B : Begins v o H) :
    Meets (Builtin.«enumerate.__new__» ⟨[.type "enumerate", v], []⟩) (fun _ R s => H s.heap ∧
      R (.ok (.ret (.ref (s.heap.push o).objs.size))) { s with heap := (s.heap.push o).push { cls := .type "enumerate", data := .fields #[.none, .bool false, .ref s.heap.objs.size, rawInt 0, .none, .none] } }) :=
  .of_wp fun prog w A R s h => by
    obtain ⟨hp, g, d, tk, os⟩ := s; obtain ⟨h1, h⟩ := h
    have hsub := sub_enumerate
    have q1 : ∀ {A' : Around} {E : Value → Shared → Prop} {Q : Value → Shared → Prop}, Q (.ref hp.objs.size) ⟨hp.push o, g, d, tk, os⟩ → wpAny (model prog w) A' (pyIter v) Q E ⟨hp, g, d, tk, os⟩ :=
      fun q => B.iter prog w _ _ ⟨hp, g, d, tk, os⟩ _ h1 q
    wp_walk using q1
    refine wpAny_stack_any fun st => wpAny_pure ?_
    split
    · rename_i c _ _ _ _ _
      cases (c == Value.type "enumerate")
      · wp_walk using q1
        exact ⟨_, rfl, h⟩
      · wp_walk using q1
        exact ⟨_, rfl, h⟩
    · wp_walk using q1
      exact ⟨_, rfl, h⟩
section
variable {prog : Program} {w : World} {A : Around} {E : Value → Shared → Prop} {s : Shared}
theorem enum_begins1 {v : Value} {o : Obj} {H : Heap → Prop} {Q : Value → Shared → Prop} (B : Begins v o H) (h1 : H s.heap)
    (h : ∀ h', IsEnum h' (s.heap.objs.size + 1) s.heap.objs.size 0 .none → h'.get? s.heap.objs.size = some o → h'.objs.size = s.heap.objs.size + 2 →
      (∀ b o, s.heap.get? b = some o → h'.get? b = some o) → Q (.ref (s.heap.objs.size + 1)) { s with heap := h' }) :
    wpAny (model prog w) A (call (.type "enumerate") [v]) Q E s := by
  refine callType_new F.called_enumerate (by decide) (F.typeCall_enumerate_1 _) (F.newCall_enumerate_1 _) (fun obj => F.args_object_init_2 obj _) F.entry_enumerate_new
    (meets_enumerate_new1 B) ⟨h1, ?_⟩
  have hz : (s.heap.push o).objs.size = s.heap.objs.size + 1 := Heap.size_push ..
  show _ ∧ _
  rw [hz]
  have he : IsEnum ((s.heap.push o).push { cls := .type "enumerate", data := .fields #[.none, .bool false, .ref s.heap.objs.size, rawInt 0, .none, .none] }) (s.heap.objs.size + 1) s.heap.objs.size 0 .none := by
    have := Heap.get?_push_size (s.heap.push o) (o := { cls := .type "enumerate", data := .fields #[.none, .bool false, .ref s.heap.objs.size, rawInt 0, .none, .none] }) rfl
    rw [hz] at this; exact this
  refine ⟨⟨_, he, rfl⟩, h _ he (Heap.get?_push_of_some _ (Heap.get?_push_size _ B.free)) (by rw [Heap.size_push, hz]) fun b o x => Heap.get?_push_of_some _ (Heap.get?_push_of_some _ x)⟩
end

/-- a tuple (true) or a list (false) -/
def SqB (K : PySem.W.Frag) (H : Hp) (b : Bool) (a : Addr) (xs : List V) : Prop := match b with
  | true => SqT K H a xs
  | false => SqL K H a xs
def SeqH (b : Bool) (h : Heap) (a : Addr) (items : Array Value) : Prop := match b with
  | true => h.IsTuple a items
  | false => h.IsList a items
def IterB (b : Bool) (h : Heap) (it a : Addr) (i : Nat) : Prop := match b with
  | true => h.IsTupleIter it a i
  | false => h.IsListIter it a i
def iterO (b : Bool) (a : Addr) : Obj := match b with
  | true => { cls := .type "tuple_iterator", data := .fields #[.ref a, .int 0 0] }
  | false => { cls := .type "list_iterator", data := .fields #[.ref a, .int 0 0] }
theorem beginsB (b : Bool) (a : Addr) (items : Array Value) : Begins (.ref a) (iterO b a) fun h => SeqH b h a items := match b with
  | true => begins_tuple a items
  | false => begins_list a items
theorem iterB_new (b : Bool) (a it : Addr) (h : Heap) (e : h.get? it = some (iterO b a)) : IterB b h it a 0 := match b, e with
  | true, e => ⟨_, e, rfl, rfl⟩
  | false, e => ⟨_, e, rfl, rfl⟩
theorem IterB.at {b : Bool} {h h' : Heap} {it a : Addr} {i : Nat} (k : ∀ o, h.get? it = some o → h'.get? it = some o) (x : IterB b h it a i) : IterB b h' it a i := match b, x with
  | true, x => Heap.IsTupleIter.at x k
  | false, x => Heap.IsListIter.at x k
theorem IterB.obj {b : Bool} {h : Heap} {it a : Addr} {i : Nat} (x : IterB b h it a i) : ∃ o, h.get? it = some o ∧ ∀ v, o.data ≠ .cell v := match b, x with
  | true, ⟨o, e, _, d⟩ => ⟨o, e, fun v z => by rw [d] at z; cases z⟩
  | false, ⟨o, e, _, d⟩ => ⟨o, e, fun v z => by rw [d] at z; cases z⟩
theorem drawsB {prog : Program} {w : World} {A : Around} (b : Bool) (hh : A.handled = none) (it a : Addr) (hne : a ≠ it) (items : Array Value) :
    Draws prog w A it [it, a] items.size (fun i v => items[i]? = some v) (fun i h => IterB b h it a i ∧ SeqH b h a items) := match b with
  | true => Draws.tuple hh it a hne items
  | false => Draws.list hh it a hne items
section
variable {X : Cx} {pins : List (Addr × Obj)} {σ : L2.St} {H : Hp} {s : Shared} {a : Addr} {xs ys : List V} {b : Bool}
theorem Inv.seqB (I : Inv X pins σ H s) (h : SqB X.K H b a xs) : ∃ its : List Value, Vals xs its ∧ SeqH b s.heap a its.toArray ∧ xs.length ≤ sizeLine ∧ a < s.heap.objs.size := by
  cases b with
  | true =>
    obtain ⟨its, r, p, z⟩ := I.tuple h
    exact ⟨its, r, p, z, p.lt⟩
  | false =>
    obtain ⟨its, r, p, z⟩ := I.list h
    exact ⟨its, r, p.isList, z, p.lt⟩
theorem Inv.seqB_inj (I : Inv X pins σ H s) (h : SqB X.K H b a xs) (h' : SqB X.K H b a ys) : xs = ys := by
  cases b with
  | true => exact I.tuple_inj h h'
  | false => exact I.list_inj h h'
end
theorem Vals.getU {xs : List V} {us : List Value} {i : Nat} {u : Value} (r : Vals xs us) (h : us.toArray[i]? = some u) : ∃ x, xs[i]? = some x ∧ RelV x u := by
  rw [List.getElem?_toArray] at h
  obtain ⟨hi, _⟩ := List.getElem?_eq_some_iff.mp h
  have hl := r.length
  cases e : xs[i]? with
  | none =>
    have := List.getElem?_eq_none_iff.mp e
    omega
  | some x =>
    obtain ⟨u', h1, h2⟩ := r.get e
    rw [h] at h1
    cases h1
    exact ⟨x, rfl, h2⟩
/-- enumerate: each item in a new pair -/
def IteB (K : PySem.W.Frag) (b : Bool) (a : Addr) : It :=
  ⟨fun i H => ∃ (xs : List V) (x : V), SqB K H b a xs ∧ xs[i]? = some x, fun i H v H' => ∃ T x, v = .ref T ∧ H T = none ∧ H' = upd H T (.tup [.int (i : Nat), x]) ∧ ∀ xs, SqB K H b a xs → xs[i]? = some x, fun i H => ∃ xs : List V, SqB K H b a xs ∧ xs.length = i⟩
theorem turn_enumB {P : Program} {w : World} {K : PySem.W.Frag} {elts : List Expr} {kk : Nat} {tpos : Pos} (b : Bool) (a e it : Addr) (hei : e ≠ it) (hea : e ≠ a) (hai : a ≠ it) :
    Turn P w K (.Tuple elts kk tpos) (IteB K b a) [e, it] e (fun i h => (∃ old, IsEnum h e it ((i : Nat) : Int) old) ∧ IterB b h it a i) where
  mem := by simp
  obj := fun i h st c hc => by
    obtain ⟨⟨old, he⟩, hi⟩ := st
    have e' : c = e ∨ c = it := by simpa using hc
    rcases e' with z | z
    · rw [z]; exact ⟨_, he, fun v q => nomatch q⟩
    · rw [z]; exact hi.obj
  keep := fun i h h' st k => let ⟨⟨old, he⟩, hi⟩ := st; ⟨⟨old, k e (by simp) _ he⟩, hi.at fun o q => k it (by simp) o q⟩
  item := by
    intro X hP hw hK hc i pins s σ H E I hf st hg
    subst hP hw hK
    obtain ⟨⟨old, he⟩, hit⟩ := st
    obtain ⟨xs, x0, hq, hx⟩ := hg
    obtain ⟨its, rv, p, hz, _⟩ := Inv.seqB I hq
    have hlt : i < its.toArray.size := by
      have l := rv.length
      have := (List.getElem?_eq_some_iff.mp hx).1
      simp; omega
    have hel : e < s.heap.objs.size := Heap.lt_size he
    have hil : it < s.heap.objs.size := by obtain ⟨_, q, _⟩ := hit.obj; exact Heap.lt_size q
    refine wpAny_pyNext_enum_itemD (drawsB b (show X.A.in1.handled = none from I.ok.hd hc) it a hai its.toArray) he ⟨hit, p⟩ hlt hei (by simp [hei, hea]) fun u h' tk hP ho hit' hT hsz hk => ?_
    obtain ⟨x, hx2, ru⟩ := Vals.getU rv hP
    refine ⟨_, rfl, wpAny_letOwnedTupleGo_enum (s := { s with heap := h', toks := tk + 1 }) ho fun h'' he' sb => ?_⟩
    have hT2 : h''.get? s.heap.objs.size = some { cls := .type "tuple", data := .seq #[.int i tk, u] } := (sb.2 _ (Nat.ne_of_gt hel)).trans hT
    have new : ObjOk X.prog X.w (upd H s.heap.objs.size (.tup [.int (i : Nat), x])) h'' s.heap.objs.size (.tup [.int (i : Nat), x]) :=
      ⟨by show 2 ≤ sizeLine; decide, [.int i tk, u], .cons ⟨_, rfl⟩ (.cons ru .nil), ⟨_, hT2, rfl, _, rfl⟩⟩
    have I1 : Inv X pins σ (upd H s.heap.objs.size (.tup [.int (i : Nat), x])) { s with heap := h'', toks := tk + 1 } :=
      I.turnedNew (ch := [e, it]) (fun c ob hb q => (sb.2 c (fun z => hb (by simp [z]))).trans (hk c ob (fun z => hb (by simp [z])) (fun z => hb (by simp [z])) q)) hf (Nat.le_refl _) new
    refine ⟨.ref s.heap.objs.size, _, I1, rfl, ⟨_, x, rfl, I.hok.fresh (Nat.le_refl _), rfl, fun ys hy => by rw [Inv.seqB_inj I hy hq]; exact hx2⟩, ⟨⟨u, ?_⟩, hit'.1.at fun o q => (sb.2 it (Ne.symm hei)).trans q⟩, fun c hb => ?_⟩
    · have e1 : ((i + 1 : Nat) : Int) = (i : Int) + 1 := by omega
      rw [e1]; exact he'
    · have hb' : c < s.heap.objs.size := by
        have e' : c = e ∨ c = it := by simpa using hb
        rcases e' with z | z
        · rw [z]; exact hel
        · rw [z]; exact hil
      rw [upd_ne (Nat.ne_of_lt hb')]
      exact (hf c hb).1
  done := by
    intro X hP hw hK hc i pins s σ H E I hf st hg
    subst hP hw hK
    obtain ⟨⟨old, he⟩, hit⟩ := st
    obtain ⟨xs, hq, hx⟩ := hg
    obtain ⟨its, rv, p, hz, _⟩ := Inv.seqB I hq
    obtain ⟨f0, f1, f2, f3, f4, f5⟩ := hf it (by simp)
    have hl := rv.length
    have hn : its.toArray.size = i := by simp; omega
    refine wpAny_pyNext_enum_endD (drawsB b (show X.A.in1.handled = none from I.ok.hd hc) it a hai its.toArray) he (by rw [hn]; exact ⟨hit, p⟩) fun h' eb => ⟨rfl, I.turned (t' := s.toks) (fun c o hb q => eb c o hb q) f0 f1 f3 f4 f5⟩
  self := fun A i s Q E st h => let ⟨⟨_, he⟩, _⟩ := st; wpAny_pyIter_enum he h
def iEnumB (K : PySem.W.Frag) (ta : TA) : TI := fun σ H R => ta σ H fun vs H1 => ∃ b a xs, vs = [.ref a] ∧ SqB K H1 b a xs ∧ R (IteB K b a) H1
theorem pi_enumB {X : Cx} {e : Expr} {ta : TA} {p pos tpos : Pos} {elts : List Expr} {kk : Nat} (hg : Gl X "enumerate") (hm : X.mg "enumerate" = none) (ha : PA X [e] ta) (hs : starEach [e] X.env = [(false, eval e X.env)] := by rfl) :
    PI X (.Tuple elts kk tpos) (.Call (.Name "enumerate" p) [e] [] pos) (iEnumB X.K ta) := by
  refine ⟨fun pins s σ H R I h => ?_⟩
  refine Call_ (ld_blt I hg hm boot_enumerate (PyProof.Rows.callWith_type1 (thn (ha.run pos pins s σ H _ I h) fun us s1 ⟨vs, H1, I1, r1, q1⟩ => ?_) hs rfl))
  obtain ⟨b, a, xs, ex, hq, q⟩ := q1
  subst ex
  cases r1 with
  | cons r rr =>
    cases rr
    cases r
    obtain ⟨its, rv, p', hz, la⟩ := Inv.seqB I1 hq
    refine enum_begins1 (beginsB b a its.toArray) p' fun h' he hit hsz hk => wpAny_pyIter_enum he ?_
    have I2 : Inv X pins σ H1 { s1 with heap := h' } := I1.kept (t' := s1.toks) hk
    refine ⟨s1.heap.objs.size + 1, [s1.heap.objs.size + 1, s1.heap.objs.size], _, _, H1, rfl, I2, turn_enumB b a (s1.heap.objs.size + 1) s1.heap.objs.size (Nat.succ_ne_self _) (Nat.ne_of_gt (Nat.lt_succ_of_lt la)) (Nat.ne_of_lt la), ⟨⟨.none, he⟩, iterB_new b a _ h' hit⟩, fun c hc => ?_, q⟩
    have e' : c = s1.heap.objs.size + 1 ∨ c = s1.heap.objs.size := by simpa using hc
    have hle : s1.heap.objs.size ≤ c := by
      rcases e' with z | z
      · rw [z]; exact Nat.le_add_right _ _
      · rw [z]; exact Nat.le_refl _
    exact I1.fpOk hle (I1.hok.fresh hle)
/-- zip: the items in new pairs -/
def ItzB (K : PySem.W.Frag) (b1 b2 : Bool) (a1 a2 : Addr) : It :=
  ⟨fun i H => ∃ (xs ys : List V) (x y : V), SqB K H b1 a1 xs ∧ SqB K H b2 a2 ys ∧ xs[i]? = some x ∧ ys[i]? = some y,
    fun i H v H' => ∃ T x y, v = .ref T ∧ H T = none ∧ H' = upd H T (.tup [x, y]) ∧ (∀ xs, SqB K H b1 a1 xs → xs[i]? = some x) ∧ ∀ ys, SqB K H b2 a2 ys → ys[i]? = some y,
    fun i H => ∃ xs ys : List V, SqB K H b1 a1 xs ∧ SqB K H b2 a2 ys ∧ i ≤ xs.length ∧ i ≤ ys.length ∧ (i = xs.length ∨ i = ys.length)⟩
theorem turn_zipB {P : Program} {w : World} {K : PySem.W.Frag} {elts : List Expr} {kk : Nat} {tpos : Pos} {b1 b2 : Bool} {a1 a2 z TI TO i1 i2 : Addr} (D : ZipSep2 z TI TO i1 i2 [i1, a1] [i2, a2]) (n1 : a1 ≠ i1) (n2 : a2 ≠ i2) :
    Turn P w K (.Tuple elts kk tpos) (ItzB K b1 b2 a1 a2) [z, TI, TO, i1, i2] z (fun i h => IsZip h z TI TO .none ∧ IsTupOf2 h TI (.ref i1) (.ref i2) ∧ (∃ x y, IsTupOf2 h TO x y) ∧ IterB b1 h i1 a1 i ∧ IterB b2 h i2 a2 i) where
  mem := by simp
  obj := fun i h st c hc => by
    obtain ⟨hz, hTI, ⟨x, y, hTO⟩, h1, h2⟩ := st
    have e' : c = z ∨ c = TI ∨ c = TO ∨ c = i1 ∨ c = i2 := by simpa using hc
    rcases e' with q | q | q | q | q
    · rw [q]; exact ⟨_, hz, fun v q => nomatch q⟩
    · rw [q]; exact ⟨_, hTI, fun v q => nomatch q⟩
    · rw [q]; exact ⟨_, hTO, fun v q => nomatch q⟩
    · rw [q]; exact h1.obj
    · rw [q]; exact h2.obj
  keep := fun i h h' st k => by
    obtain ⟨hz, hTI, ⟨x, y, hTO⟩, h1, h2⟩ := st
    exact ⟨k z (by simp) _ hz, k TI (by simp) _ hTI, ⟨x, y, k TO (by simp) _ hTO⟩, h1.at fun o q => k i1 (by simp) o q, h2.at fun o q => k i2 (by simp) o q⟩
  item := by
    intro X hP hw hK hc i pins s σ H E I hf st hg
    subst hP hw hK
    obtain ⟨hz, hTI, ⟨x0, y0, hTO⟩, h1, h2⟩ := st
    obtain ⟨xs, ys, x, y, hqx, hqy, hx, hy⟩ := hg
    obtain ⟨its, rv, p, _, _⟩ := Inv.seqB I hqx
    obtain ⟨its2, rv2, p2, _, _⟩ := Inv.seqB I hqy
    have lt1 : i < its.toArray.size := by
      have l := rv.length
      have := (List.getElem?_eq_some_iff.mp hx).1
      simp; omega
    have lt2 : i < its2.toArray.size := by
      have l := rv2.length
      have := (List.getElem?_eq_some_iff.mp hy).1
      simp; omega
    have hzl : z < s.heap.objs.size := Heap.lt_size hz
    refine wpAny_pyNext_zipD2_item D (drawsB b1 (show X.A.in1.handled = none from I.ok.hd hc) i1 a1 n1 its.toArray) (drawsB b2 (show X.A.in1.handled = none from I.ok.hd hc) i2 a2 n2 its2.toArray) hz hTI hTO ⟨h1, p⟩ ⟨h2, p2⟩ lt1 lt2 fun u u2 h' tk hP1 hP2 z' TO' h1' h2' hT hsz hk => ?_
    obtain ⟨x, hx, ru⟩ := Vals.getU rv hP1
    obtain ⟨y, hy, ru2⟩ := Vals.getU rv2 hP2
    refine ⟨_, rfl, wpAny_letOwnedTupleGo_zip (s := { s with heap := h', toks := tk }) z' fun h'' z'' sb => ?_⟩
    have hT2 : h''.get? s.heap.objs.size = some { cls := .type "tuple", data := .seq #[u, u2] } := (sb.2 _ (Nat.ne_of_gt hzl)).trans hT
    have new : ObjOk X.prog X.w (upd H s.heap.objs.size (.tup [x, y])) h'' s.heap.objs.size (.tup [x, y]) :=
      ⟨by show 2 ≤ sizeLine; decide, [u, u2], .cons ru (.cons ru2 .nil), ⟨_, hT2, rfl, _, rfl⟩⟩
    have I1 : Inv X pins σ (upd H s.heap.objs.size (.tup [x, y])) { s with heap := h'', toks := tk } :=
      I.turnedNew (t' := tk) (ch := [z, TI, TO, i1, i2]) (fun c o hb q => (sb.2 c (fun q' => hb (by simp [q']))).trans (hk c o (fun q' => hb (by simp [q'])) (fun q' => hb (by simp [q'])) (fun q' => hb (by simp [q'])) (fun q' => hb (by simp [q'])) q)) hf (Nat.le_refl _) new
    refine ⟨.ref s.heap.objs.size, _, I1, rfl, ⟨_, x, y, rfl, I.hok.fresh (Nat.le_refl _), rfl, fun l hl => by rw [Inv.seqB_inj I hl hqx]; exact hx, fun l hl => by rw [Inv.seqB_inj I hl hqy]; exact hy⟩, ⟨z'', ?_, ⟨u, u2, ?_⟩, ?_, ?_⟩, fun c hcm => ?_⟩
    · exact (sb.2 _ D.TIz).trans (hk _ _ D.TIz D.TITO D.TIi1 D.TIi2 hTI)
    · exact (sb.2 _ D.TOz).trans TO'
    · exact h1'.1.at fun o q => (sb.2 _ (Ne.symm D.zi1)).trans q
    · exact h2'.1.at fun o q => (sb.2 _ (Ne.symm D.zi2)).trans q
    · have hlt : c < s.heap.objs.size := by
        have e' : c = z ∨ c = TI ∨ c = TO ∨ c = i1 ∨ c = i2 := by simpa using hcm
        rcases e' with q | q | q | q | q
        · rw [q]; exact hzl
        · rw [q]; exact Heap.lt_size hTI
        · rw [q]; exact Heap.lt_size hTO
        · rw [q]; obtain ⟨_, e1, _⟩ := h1.obj; exact Heap.lt_size e1
        · rw [q]; obtain ⟨_, e2, _⟩ := h2.obj; exact Heap.lt_size e2
      rw [upd_ne (Nat.ne_of_lt hlt)]
      exact (hf c hcm).1
  done := by
    intro X hP hw hK hc i pins s σ H E I hf st hg
    subst hP hw hK
    obtain ⟨hz, hTI, ⟨x0, y0, hTO⟩, h1, h2⟩ := st
    obtain ⟨xs, ys, hqx, hqy, l1, l2, hend⟩ := hg
    obtain ⟨its, rv, p, _, _⟩ := Inv.seqB I hqx
    obtain ⟨its2, rv2, p2, _, _⟩ := Inv.seqB I hqy
    have e1 := rv.length
    have e2 := rv2.length
    exact wpAny_pyNext_zipD2_end D (drawsB b1 (show X.A.in1.handled = none from I.ok.hd hc) i1 a1 n1 its.toArray) (drawsB b2 (show X.A.in1.handled = none from I.ok.hd hc) i2 a2 n2 its2.toArray) hz hTI hTO ⟨h1, p⟩ ⟨h2, p2⟩ (by simp; omega) (by simp; omega) (by simp; omega)
      fun h' tk hk => ⟨rfl, I.turnedL (t' := tk) (ch := [z, TI, TO, i1, i2]) (fun c o hb q =>
      hk c o (fun q' => hb (by simp [q'])) (fun q' => hb (by simp [q'])) (fun q' => hb (by simp [q'])) (fun q' => hb (by simp [q'])) q) hf⟩
  self := fun A i s Q E st h => wpAny_pyIter_zip st.1 h
def iZipB (K : PySem.W.Frag) (ta : TA) : TI := fun σ H R => ta σ H fun vs H1 => ∃ b1 b2 a1 a2 xs ys, vs = [.ref a1, .ref a2] ∧ SqB K H1 b1 a1 xs ∧ SqB K H1 b2 a2 ys ∧ R (ItzB K b1 b2 a1 a2) H1
theorem pi_zipB {X : Cx} {e e2 : Expr} {ta : TA} {p pos tpos : Pos} {elts : List Expr} {kk : Nat} (hg : Gl X "zip") (hm : X.mg "zip" = none) (ha : PA X [e, e2] ta)
    (hs : starEach [e, e2] X.env = (false, eval e X.env) :: starEach [e2] X.env := by rfl) (hpl : (backTo pos (starEach [e2] X.env)).any (·.1) = false := by rfl) :
    PI X (.Tuple elts kk tpos) (.Call (.Name "zip" p) [e, e2] [] pos) (iZipB X.K ta) := by
  refine ⟨fun pins s σ H R I h => ?_⟩
  refine Call_ (ld_blt I hg hm PyProof.Rows.boot_zip (PyProof.Rows.callWith_type1 (thn (ha.run pos pins s σ H _ I h) fun us s1 ⟨vs, H1, I1, r1, q1⟩ => ?_) hs hpl))
  obtain ⟨b1, b2, a1, a2, xs, ys, ex, hqx, hqy, q⟩ := q1
  subst ex
  cases r1 with
  | cons r rr =>
    cases rr with
    | cons r' rr =>
      cases rr
      cases r
      cases r'
      obtain ⟨its, rv, p1, _, la⟩ := Inv.seqB I1 hqx
      obtain ⟨its2, rv2, p2, _, lb⟩ := Inv.seqB I1 hqy
      refine zip_begins2 (beginsB b1 a1 its.toArray) (beginsB b2 a2 its2.toArray) p1 p2 fun h' hz hTI hTO h1 h2 hsz hk => wpAny_pyIter_zip hz ?_
      have I2 : Inv X pins σ H1 { s1 with heap := h' } := I1.kept (t' := s1.toks) hk
      refine ⟨s1.heap.objs.size + 4, [s1.heap.objs.size + 4, s1.heap.objs.size + 2, s1.heap.objs.size + 3, s1.heap.objs.size, s1.heap.objs.size + 1], _, _, H1, rfl, I2,
        turn_zipB (b1 := b1) (b2 := b2) (zip_sep2 (N := s1.heap.objs.size) (fp1 := [a1]) (fp2 := [a2]) (fun c hc => by rw [List.mem_singleton.mp hc]; exact la) (fun c hc => by rw [List.mem_singleton.mp hc]; exact lb)) (Nat.ne_of_lt la) (Nat.ne_of_lt (Nat.lt_succ_of_lt lb)),
        ⟨hz, hTI, ⟨_, _, hTO⟩, iterB_new b1 a1 _ h' h1, iterB_new b2 a2 _ h' h2⟩, fun c hcm => ?_, q⟩
      have e' : c = s1.heap.objs.size + 4 ∨ c = s1.heap.objs.size + 2 ∨ c = s1.heap.objs.size + 3 ∨ c = s1.heap.objs.size ∨ c = s1.heap.objs.size + 1 := by simpa using hcm
      have hle : s1.heap.objs.size ≤ c := by
        rcases e' with z | z | z | z | z
        · rw [z]; exact Nat.le_add_right _ _
        · rw [z]; exact Nat.le_add_right _ _
        · rw [z]; exact Nat.le_add_right _ _
        · rw [z]; exact Nat.le_refl _
        · rw [z]; exact Nat.le_add_right _ _
      exact I1.fpOk hle (I1.hok.fresh hle)
/-! ### a tuple, a list or a text walked -/
def iSeqA (K : PySem.W.Frag) (tl : TE) : TI := fun σ H R => tl σ H fun x H1 => (∃ a, x = .ref a ∧ (∃ xs, SqL K H1 a xs) ∧ R (Itl K a) H1) ∨ (∃ a, x = .ref a ∧ (∃ xs, SqT K H1 a xs) ∧ R (Itt K a) H1)
theorem pi_seqA {X : Cx} {tg l : Expr} {tl : TE} (hl : PE X l tl) : PI X tg l (iSeqA X.K tl) := by
  refine ⟨fun pins s σ H R I h => ?_⟩
  refine thn (hl.run pins s σ H _ I h) fun v s1 ⟨x, H1, I1, r1, q1⟩ => ?_
  rcases q1 with ⟨a, e, ⟨xs, hq⟩, q⟩ | ⟨a, e, ⟨xs, hq⟩, q⟩
  · subst e
    cases r1
    obtain ⟨its, rv, p, hz⟩ := I1.list hq
    refine wpAny_pyIter_list p.isList ?_
    refine ⟨s1.heap.objs.size, [s1.heap.objs.size], _, _, H1, rfl, I1.kept (t' := s1.toks) fun b o e => Heap.get?_push_of_some _ e, turn_list a _, ⟨_, Heap.get?_push_size _ rfl, rfl, rfl⟩, fun b hb => ?_, q⟩
    have e : b = s1.heap.objs.size := by simpa using hb
    subst e
    exact I1.fpOk (Nat.le_refl _) (I1.hok.fresh (Nat.le_refl _))
  · subst e
    cases r1
    obtain ⟨its, rv, p, hz⟩ := I1.tuple hq
    refine wpAny_pyIter_tuple (show s1.heap.IsTuple a its.toArray from p) ?_
    refine ⟨s1.heap.objs.size, [s1.heap.objs.size], _, _, H1, rfl, I1.kept (t' := s1.toks) fun b o e => Heap.get?_push_of_some _ e, turn_tuple a _, ⟨_, Heap.get?_push_size _ rfl, rfl, rfl⟩, fun b hb => ?_, q⟩
    have e : b = s1.heap.objs.size := by simpa using hb
    subst e
    exact I1.fpOk (Nat.le_refl _) (I1.hok.fresh (Nat.le_refl _))
end TD
/-! # TD, 7: what is walked; comprehensions as rules; defs and calls -/
namespace TD
open PySem PySem.Spec PyProof.Rows L2

/-! ### sources -/
def SrcOk (K : PySem.W.Frag) (Z : Addr → Prop) (b : Bool) (a : Addr) (ds : List D) (G0 : GH) (H0 : Hp) (Gd : GH → Prop) : Prop :=
  ∀ (Z' : Addr → Prop) G H, (∀ a, H0 a ≠ none → Z' a → Z a) → Fr G0 H0 G H → HR K Z' G H → Gd G → ∃ vs, SqB K H b a vs ∧ DVs K Z' G H ds vs ∧ vs.length ≤ sizeLine
def srcD (z : D) (G : GH) (R : List D → (GH → Prop) → Prop) : Prop := match z with
  | .tup xs => R xs (fun _ => True)
  | .lst xs => R xs (fun _ => True)
  | .scr ns => R (ns.map D.int) (fun _ => True)
  | .ref a => ∃ xs, G a = some (.lst xs) ∧ R xs (fun G => G a = some (.lst xs))
  | _ => False
theorem src_ok {K : PySem.W.Frag} {Z : Addr → Prop} {G : GH} {H : Hp} {z : D} {v : V} {R : List D → (GH → Prop) → Prop} (hr : HR K Z G H) (d : DV K Z G H z v) (h : srcD z G R) :
    ∃ b a ds Gd, v = .ref a ∧ R ds Gd ∧ Gd G ∧ SrcOk K Z b a ds G H Gd ∧ ds.length ≤ sizeLine := by
  unfold srcD at h
  split at h
  · cases d with
    | tup n1 g1 h1 z1 r1 => exact ⟨true, _, _, _, rfl, h, trivial, fun Z' G' H' up f r _ => ⟨_, SqT.of (f _ _ h1 g1).1, (r1.zmono up).mono f, z1⟩, by rw [r1.length]; exact z1⟩
  · cases d with
    | lst n1 g1 h1 z1 r1 => exact ⟨false, _, _, _, rfl, h, trivial, fun Z' G' H' up f r _ => ⟨_, SqL.of (f _ _ h1 g1).1, (r1.zmono up).mono f, z1⟩, by rw [r1.length]; exact z1⟩
  · cases d with
    | scr h1 z1 => exact ⟨false, _, _, _, rfl, h, trivial, fun Z' G' H' up f r _ => ⟨_, (h1.mono f).seq, DVs.of_ints _, by rw [List.length_map]; exact z1⟩, by rw [List.length_map]; exact z1⟩
  · cases d
    obtain ⟨xs, g, q⟩ := h
    obtain ⟨ws, _, r0, z0⟩ := hr.at_ _ _ g
    refine ⟨false, _, xs, _, rfl, q, g, fun Z' G' H' up f r gd => ?_, by rw [r0.length]; exact z0⟩
    obtain ⟨vs, h1, r1, z1⟩ := r.at_ _ _ gd
    exact ⟨vs, SqL.of h1, r1, z1⟩
  · exact h.elim
theorem SqB.inj_of {K : PySem.W.Frag} {H : Hp} {b : Bool} {a : Addr} {xs : List V} {x : V} {i : Nat} (h : ∀ xs, SqB K H b a xs → xs[i]? = some x) (q : SqB K H b a xs) : xs[i]? = some x := h xs q
/-- at each turn the item itself -/
theorem it_seq {K : PySem.W.Frag} {Z : Addr → Prop} {b : Bool} {a : Addr} {ds : List D} {G0 : GH} {H0 : Hp} {Gd : GH → Prop} (s : SrcOk K Z b a ds G0 H0 Gd) (hz : ds.length ≤ sizeLine) :
    ItOk K Z (match b with | true => Itt K a | false => Itl K a) ds G0 H0 Gd := by
  refine ⟨hz, fun Z' i G H up f r gd hi => ?_, fun Z' G H up f r gd => ?_, fun Z' i G H x H' up f r gd hi y => ?_⟩
  · obtain ⟨vs, q, dv, _⟩ := s Z' G H up f r gd
    obtain ⟨v, hv, _⟩ := dv.get (i := i) (d := ds[i]) (by simp [hi])
    cases b with
    | true => exact ⟨vs, v, q, hv⟩
    | false => exact ⟨vs, v, q, hv⟩
  · obtain ⟨vs, q, dv, _⟩ := s Z' G H up f r gd
    have l := dv.length
    cases b with
    | true => exact ⟨vs, q, by omega⟩
    | false => exact ⟨vs, q, by omega⟩
  · obtain ⟨vs, q, dv, _⟩ := s Z' G H up f r gd
    have hx : H' = H ∧ vs[i]? = some x := by
      cases b with
      | true => exact ⟨y.1, y.2 vs q⟩
      | false => exact ⟨y.1, y.2 vs q⟩
    obtain ⟨e, hx⟩ := hx
    obtain ⟨d, hd, r2⟩ := dv.getV hx
    exact ⟨d, hd, e ▸ Fr.refl G H', e ▸ r, e ▸ r2⟩
def dEnum : Nat → List D → List D
  | _, [] => []
  | i, d :: r => .tup [.int (i : Int), d] :: dEnum (i + 1) r
theorem dEnum_length : ∀ (ds : List D) (i : Nat), (dEnum i ds).length = ds.length
  | [], _ => rfl
  | _ :: r, i => by rw [dEnum, List.length_cons, List.length_cons, dEnum_length r]
theorem dEnum_get : ∀ (ds : List D) (i j : Nat) (d : D), ds[j]? = some d → (dEnum i ds)[j]? = some (.tup [.int ((i + j : Nat) : Int), d])
  | [], _, _, _, h => by simp at h
  | e :: r, i, 0, d, h => by
    simp at h
    subst h
    simp [dEnum]
  | e :: r, i, j + 1, d, h => by
    have ih := dEnum_get r (i + 1) j d (by simpa using h)
    rw [dEnum, List.getElem?_cons_succ, ih]
    congr 5
    omega
theorem pair_new {K : PySem.W.Frag} {Z : Addr → Prop} {G : GH} {H : Hp} {T : Addr} {x y : D} {vx vy : V} (hr : HR K Z G H) (e : H T = none) (dx : DV K Z G H x vx) (dy : DV K Z G H y vy) :
    Fr G H G (upd H T (.tup [vx, vy])) ∧ HR K Z G (upd H T (.tup [vx, vy])) ∧ DV K Z G (upd H T (.tup [vx, vy])) (.tup [x, y]) (.ref T) :=
  ⟨Fr.new e, hr.new e, .tup (hr.noZ e) (hr.free e) upd_same (by show 2 ≤ sizeLine; decide) (.cons (dx.mono (Fr.new e)) (.cons (dy.mono (Fr.new e)) .nil))⟩
theorem it_enum {K : PySem.W.Frag} {Z : Addr → Prop} {b : Bool} {a : Addr} {ds : List D} {G0 : GH} {H0 : Hp} {Gd : GH → Prop} (s : SrcOk K Z b a ds G0 H0 Gd) (hz : ds.length ≤ sizeLine) :
    ItOk K Z (IteB K b a) (dEnum 0 ds) G0 H0 Gd := by
  refine ⟨by rw [dEnum_length]; exact hz, fun Z' i G H up f r gd hi => ?_, fun Z' G H up f r gd => ?_, fun Z' i G H x H' up f r gd hi y => ?_⟩
  · obtain ⟨vs, q, dv, _⟩ := s Z' G H up f r gd
    rw [dEnum_length] at hi
    obtain ⟨v, hv, _⟩ := dv.get (i := i) (d := ds[i]) (by simp [hi])
    exact ⟨vs, v, q, hv⟩
  · obtain ⟨vs, q, dv, _⟩ := s Z' G H up f r gd
    exact ⟨vs, q, by rw [dEnum_length, dv.length]⟩
  · obtain ⟨vs, q, dv, _⟩ := s Z' G H up f r gd
    obtain ⟨T, x0, e1, e2, e3, hx⟩ := y
    obtain ⟨d, hd, r2⟩ := dv.getV (hx vs q)
    subst e1 e3
    obtain ⟨f3, r3, d3⟩ := pair_new r e2 (.int (i : Nat)) r2
    have e := dEnum_get ds 0 i d hd
    rw [Nat.zero_add] at e
    exact ⟨_, e, f3, r3, d3⟩
def zipD (xs ys : List D) : List D := List.zipWith (fun x y => D.tup [x, y]) xs ys
theorem it_zip {K : PySem.W.Frag} {Z : Addr → Prop} {b1 b2 : Bool} {a1 a2 : Addr} {ds es : List D} {G0 : GH} {H0 : Hp} {Gd1 Gd2 : GH → Prop} (s1 : SrcOk K Z b1 a1 ds G0 H0 Gd1) (s2 : SrcOk K Z b2 a2 es G0 H0 Gd2) (hz : ds.length ≤ sizeLine) :
    ItOk K Z (ItzB K b1 b2 a1 a2) (zipD ds es) G0 H0 (fun G => Gd1 G ∧ Gd2 G) := by
  have len : (zipD ds es).length = min ds.length es.length := by unfold zipD; rw [List.length_zipWith]
  refine ⟨by rw [len]; omega, fun Z' i G H up f r gd hi => ?_, fun Z' G H up f r gd => ?_, fun Z' i G H x H' up f r gd hi y => ?_⟩
  · obtain ⟨vs, q, dv, _⟩ := s1 Z' G H up f r gd.1
    obtain ⟨us, q2, du, _⟩ := s2 Z' G H up f r gd.2
    rw [len] at hi
    obtain ⟨v, hv, _⟩ := dv.get (i := i) (d := ds[i]'(by omega)) (by rw [List.getElem?_eq_getElem])
    obtain ⟨u, hu, _⟩ := du.get (i := i) (d := es[i]'(by omega)) (by rw [List.getElem?_eq_getElem])
    exact ⟨vs, us, v, u, q, q2, hv, hu⟩
  · obtain ⟨vs, q, dv, _⟩ := s1 Z' G H up f r gd.1
    obtain ⟨us, q2, du, _⟩ := s2 Z' G H up f r gd.2
    have l1 := dv.length
    have l2 := du.length
    exact ⟨vs, us, q, q2, by omega, by omega, by omega⟩
  · obtain ⟨vs, q, dv, _⟩ := s1 Z' G H up f r gd.1
    obtain ⟨us, q2, du, _⟩ := s2 Z' G H up f r gd.2
    obtain ⟨T, x0, y0, e1, e2, e3, hx, hy⟩ := y
    obtain ⟨d, hd, r2⟩ := dv.getV (hx vs q)
    obtain ⟨e, he, r3⟩ := du.getV (hy us q2)
    subst e1 e3
    obtain ⟨f3, r3, d3⟩ := pair_new r e2 r2 r3
    refine ⟨_, ?_, f3, r3, d3⟩
    unfold zipD
    rw [List.getElem?_zipWith, hd, he]
def rngD (lo : Int) (n : Nat) : List D := (List.range n).map fun i => D.int (lo + (i : Nat))
theorem it_range {K : PySem.W.Frag} {Z : Addr → Prop} {lo : Int} {n : Nat} {G0 : GH} {H0 : Hp} (hz : n ≤ sizeLine) : ItOk K Z (Itr lo n) (rngD lo n) G0 H0 (fun _ => True) := by
  have len : (rngD lo n).length = n := by unfold rngD; rw [List.length_map, List.length_range]
  refine ⟨by rw [len]; exact hz, fun Z' i G H up f r gd hi => by rw [len] at hi; exact hi, fun Z' G H up f r gd => by rw [len]; exact Nat.le_refl _, fun Z' i G H x H' up f r gd hi y => ?_⟩
  obtain ⟨e1, e2⟩ := y
  subst e1 e2
  rw [len] at hi
  exact ⟨_, by unfold rngD; rw [List.getElem?_map, List.getElem?_range hi] <;> rfl, Fr.refl _ _, r, .int _⟩
def signs (w : Str) : List D := w.cps.toList.map fun c => D.str ⟨#[c]⟩
theorem it_str {K : PySem.W.Frag} {Z : Addr → Prop} {w : Str} {G0 : GH} {H0 : Hp} (hz : w.length ≤ sizeLine) : ItOk K Z (Its w) (signs w) G0 H0 (fun _ => True) := by
  have len : (signs w).length = w.cps.size := by unfold signs; rw [List.length_map, Array.length_toList]
  refine ⟨by rw [len]; exact hz, fun Z' i G H up f r gd hi => by rw [len] at hi; exact hi, fun Z' G H up f r gd => by rw [len]; exact Nat.le_refl _, fun Z' i G H x H' up f r gd hi y => ?_⟩
  obtain ⟨e1, c, e2, e3⟩ := y
  subst e1 e3
  refine ⟨_, ?_, Fr.refl _ _, r, .str _⟩
  unfold signs
  rw [List.getElem?_map, Array.getElem?_toList, e2] <;> rfl

def dISeq (a : DE) : DI := fun ρ x G R => a ρ x G fun z G1 => srcD z G1 fun ds Gd => R ds Gd G1
def dIStr (a : DE) : DI := fun ρ x G R => a ρ x G fun z G1 => ∃ w, z = .str w ∧ w.length ≤ sizeLine ∧ R (signs w) (fun _ => True) G1
def dIEnum (t : DA) : DI := fun ρ x G R => t ρ x G fun zs G1 => ∃ z, zs = [z] ∧ srcD z G1 fun ds Gd => R (dEnum 0 ds) Gd G1
def dIZip (t : DA) : DI := fun ρ x G R => t ρ x G fun zs G1 => ∃ z y, zs = [z, y] ∧ srcD z G1 fun ds Gd => srcD y G1 fun es Ge => R (zipD ds es) (fun G => Gd G ∧ Ge G) G1
def dIRng1 (t : DA) : DI := fun ρ x G R => t ρ x G fun zs G1 => ∃ n : Int, zs = [.int n] ∧ -(2 ^ 62) ≤ n ∧ n.toNat ≤ sizeLine ∧ R (rngD 0 n.toNat) (fun _ => True) G1
def dIRng2 (t : DA) : DI := fun ρ x G R => t ρ x G fun zs G1 => ∃ m n : Int, zs = [.int m, .int n] ∧ (-(2 ^ 62) ≤ m ∧ m < 2 ^ 62 ∧ -(2 ^ 62) ≤ n ∧ n < 2 ^ 62) ∧ (n - m).toNat ≤ sizeLine ∧ R (rngD m (n - m).toNat) (fun _ => True) G1
section
variable {X : Cx} {W : WX} {tg e e1 e2 : Expr} {a : DE} {t : DA} {p pos tpos : Pos} {elts : List Expr} {kk : Nat}
theorem pdi_seq (ha : PD X W e a) : PDI X W tg e (dISeq a) := PI.imp (pi_seqA ha) fun σ H R ⟨Z, ρ, x, G, Qd, sr, hr, h, c, xo⟩ => ⟨Z, ρ, x, G, _, sr, hr, h, fun z v G1 H1 f1 r1 d1 q1 => by
  obtain ⟨b, ad, ds, Gd, ev, q, gd, so, hz⟩ := src_ok r1 d1 q1
  have it := it_seq so hz
  obtain ⟨vs, sq, _⟩ := so Z G1 H1 (fun _ _ z => z) (Fr.refl _ _) r1 gd
  cases b with
  | true => exact .inr ⟨ad, ev, ⟨vs, sq⟩, c ds Gd G1 H1 _ f1 r1 it q⟩
  | false => exact .inl ⟨ad, ev, ⟨vs, sq⟩, c ds Gd G1 H1 _ f1 r1 it q⟩, xo⟩
theorem pdi_str (ha : PD X W e a) : PDI X W tg e (dIStr a) := PI.imp (pi_str ha) fun σ H R ⟨Z, ρ, x, G, Qd, sr, hr, h, c, xo⟩ => ⟨Z, ρ, x, G, _, sr, hr, h, fun z v G1 H1 f1 r1 d1 ⟨w, ez, hz, q⟩ => by
  subst ez
  cases d1
  exact ⟨w, rfl, c _ _ G1 H1 _ f1 r1 (it_str hz) q⟩, xo⟩
theorem pdi_enum (hm : X.mg "enumerate" = none) (ha : PDA X W [e] t) (hg : Gl X "enumerate" := by rfl) (hs : starEach [e] X.env = [(false, eval e X.env)] := by rfl) :
    PDI X W (.Tuple elts kk tpos) (.Call (.Name "enumerate" p) [e] [] pos) (dIEnum t) := PI.imp (pi_enumB hg hm ha hs) fun σ H R ⟨Z, ρ, x, G, Qd, sr, hr, h, c, xo⟩ => ⟨Z, ρ, x, G, _, sr, hr, h, fun zs vs G1 H1 f1 r1 d1 ⟨z, ez, q⟩ => by
  subst ez
  obtain ⟨v, rfl, d⟩ := d1.one
  obtain ⟨b, ad, ds, Gd, ev, q, gd, so, hz⟩ := src_ok r1 d q
  obtain ⟨vs, sq, _⟩ := so Z G1 H1 (fun _ _ z => z) (Fr.refl _ _) r1 gd
  exact ⟨b, ad, vs, by rw [ev], sq, c _ _ G1 H1 _ f1 r1 (it_enum so hz) q⟩, xo⟩
theorem pdi_zip (hm : X.mg "zip" = none) (ha : PDA X W [e1, e2] t) (hg : Gl X "zip" := by rfl) (hs : starEach [e1, e2] X.env = (false, eval e1 X.env) :: starEach [e2] X.env := by rfl) (hpl : (backTo pos (starEach [e2] X.env)).any (·.1) = false := by rfl) :
    PDI X W (.Tuple elts kk tpos) (.Call (.Name "zip" p) [e1, e2] [] pos) (dIZip t) := PI.imp (pi_zipB hg hm ha hs hpl) fun σ H R ⟨Z, ρ, x, G, Qd, sr, hr, h, c, xo⟩ => ⟨Z, ρ, x, G, _, sr, hr, h, fun zs vs G1 H1 f1 r1 d1 ⟨z, y, ez, q⟩ => by
  subst ez
  obtain ⟨v, u, rfl, dz, dy⟩ := d1.two
  obtain ⟨b, ad, ds, Gd, ev, q, gd, so, hz⟩ := src_ok r1 dz q
  obtain ⟨b', ad', es, Ge, ev', q, gd', so', hz'⟩ := src_ok r1 dy q
  obtain ⟨vs, sq, _⟩ := so Z G1 H1 (fun _ _ z => z) (Fr.refl _ _) r1 gd
  obtain ⟨us, sq', _⟩ := so' Z G1 H1 (fun _ _ z => z) (Fr.refl _ _) r1 gd'
  exact ⟨b, b', ad, ad', vs, us, by rw [ev, ev'], sq, sq', c _ _ G1 H1 _ f1 r1 (it_zip so so' hz) q⟩, xo⟩
theorem pdi_range1 (hm : X.mg "range" = none) (ha : PDA X W [e] t) (hg : Gl X "range" := by rfl) (hs : starEach [e] X.env = [(false, eval e X.env)] := by rfl) :
    PDI X W tg (.Call (.Name "range" p) [e] [] pos) (dIRng1 t) := PI.imp (pi_range1 hg hm ha hs) fun σ H R ⟨Z, ρ, x, G, Qd, sr, hr, h, c, xo⟩ => ⟨Z, ρ, x, G, _, sr, hr, h, fun zs vs G1 H1 f1 r1 d1 ⟨n, ez, h1, h2, q⟩ => by
  subst ez
  obtain ⟨v, rfl, d⟩ := d1.one
  cases d
  exact ⟨n, rfl, h1, by rw [sizeLine_eq] at h2; omega, c _ _ G1 H1 _ f1 r1 (it_range h2) q⟩, xo⟩
theorem pdi_range2 (hm : X.mg "range" = none) (ha : PDA X W [e1, e2] t) (hg : Gl X "range" := by rfl) (hs : starEach [e1, e2] X.env = [(false, eval e1 X.env), (false, eval e2 X.env)] := by rfl) (hs2 : starEach [e2] X.env = [(false, eval e2 X.env)] := by rfl) :
    PDI X W tg (.Call (.Name "range" p) [e1, e2] [] pos) (dIRng2 t) := PI.imp (pi_range2 hg hm ha hs hs2) fun σ H R ⟨Z, ρ, x, G, Qd, sr, hr, h, c, xo⟩ => ⟨Z, ρ, x, G, _, sr, hr, h, fun zs vs G1 H1 f1 r1 d1 ⟨m, n, ez, h1, h2, q⟩ => by
  subst ez
  obtain ⟨v, u, rfl, dz, dy⟩ := d1.two
  cases dz
  cases dy
  exact ⟨m, n, rfl, h1, c _ _ G1 H1 _ f1 r1 (it_range h2) q⟩, xo⟩
end

/-! ### comprehensions -/
abbrev PDTs (X : Cx) (W : WX) (ifs : List Expr) (d : DT) : Prop := PTs X ifs (lowT X.K W d)
def dYes : DT := fun _ _ G Q => Q true G
section
variable {X : Cx} {W : WX}
theorem pdts_nil : PDTs X W [] dYes := ⟨fun pins s σ H Q I ⟨Z, ρ, x, G, Qd, sr, hr, h, c, xo⟩ => pts_nil.run pins s σ H Q I (show Q true H from c true G H (Fr.refl G H) hr h)⟩
theorem pdts_one {c : Expr} {d : DT} (h : PDT X W c d) : PDTs X W [c] d := pts_one h
variable {elt tg iter : Expr} {ifs : List Expr} {scope : Scope} {own : List (Str × Nat)} {pos : Pos} {di : DI} {g : DG} {t : DT} {e : DE}
theorem pd_lc (own : List (Str × Nat)) (hc : X.calm = true) (hN : X.N.Nodup) (hi : PDI X W tg iter di) (ok : BlkOk X.N X.env.scope scope own)
    (hg : ∀ (s : Shared) (H : Hp) (C : Addr) (cl : List (Str × Addr)) (fp : List Addr), PDG (X.blk s H scope (compEnvC scope cl C X.env) fp) WF (own.map (·.2)) tg g)
    (ht : ∀ (s : Shared) (H : Hp) (C : Addr) (cl : List (Str × Addr)) (fp : List Addr), PDTs (X.blk s H scope (compEnvC scope cl C X.env) fp) WF ifs t)
    (he : ∀ (s : Shared) (H : Hp) (C : Addr) (cl : List (Str × Addr)) (fp : List Addr), PD (X.blk s H scope (compEnvC scope cl C X.env) fp) WF elt e) (hs : ∀ x, foldedSetIterable iter X.env x = pure x := by intro _; rfl) :
    PD X W (.ListComp elt [⟨tg, iter, ifs, 0⟩] scope pos) (dLc di g t e (own.map (·.2))) := PE.imp (pe_lc hc hN hi ok hg ht he hs) low_lc
/-- y = [..] -/
theorem pds_setLc (i : Nat) (own : List (Str × Nat)) {y : Str} {py spos : Pos} (hc : X.calm = true) (hN : X.N.Nodup) (hi : PDI X W tg iter di) (ok : BlkOk X.N X.env.scope scope own)
    (hg : ∀ (s : Shared) (H : Hp) (C : Addr) (cl : List (Str × Addr)) (fp : List Addr), PDG (X.blk s H scope (compEnvC scope cl C X.env) fp) WF (own.map (·.2)) tg g)
    (ht : ∀ (s : Shared) (H : Hp) (C : Addr) (cl : List (Str × Addr)) (fp : List Addr), PDTs (X.blk s H scope (compEnvC scope cl C X.env) fp) WF ifs t)
    (he : ∀ (s : Shared) (H : Hp) (C : Addr) (cl : List (Str × Addr)) (fp : List Addr), PD (X.blk s H scope (compEnvC scope cl C X.env) fp) WF elt e)
    (hsw : swapsWith (.ListComp elt [⟨tg, iter, ifs, 0⟩] scope pos) (some (.Name y py)) spos.line X.env = pure true)
    (hy : X.N[i]? = some y := by rfl) (hyl : X.env.scope.names.lookup y = some .local := by rfl) (hs : ∀ x, foldedSetIterable iter X.env x = pure x := by intro _; rfl) :
    PDS X W (.Assign [.Name y py] (.ListComp elt [⟨tg, iter, ifs, 0⟩] scope pos) spos) (dAsg (dLc di g t e (own.map (·.2))) (gdName i)) :=
  PS.imp (ps_setLc hc hN hy hyl hsw hi ok hg ht he hs) fun E σ H ⟨Z, ρ, G, Dd, sr, hr, h, ok⟩ => low_lc σ H _
    ⟨Z, ρ, Dd.xx ρ, G, _, sr, hr, h, fun z v G1 H1 f1 r1 d1 q1 => ok.nx _ _ G1 H1 f1 r1 ((sr.mono f1).set d1 i) q1, ok.xo sr⟩
end

/-! ### defs -/
/-- a promise at the level of data: arguments, what is told, what follows, what is raised -/
abbrev SpD := List D → GH → DK → XD → Prop
def lowSp (K : PySem.W.Frag) (sp : SpD) : Sp := fun vs H Q E => ∃ (Z : Addr → Prop) (zs : List D) (G : GH) (Qd : DK) (x : XD), DVs K Z G H zs vs ∧ HR K Z G H ∧ sp zs G Qd x ∧ Ret K Z G H Qd Q ∧ XOk K Z (fun c d _ H' => E c d H') G H [] x
def dstart (N : List Str) (zs : List D) : Rho := zs.map some ++ List.replicate (N.length - zs.length) none
theorem sr_start {K : PySem.W.Frag} {Z : Addr → Prop} {G : GH} {H : Hp} {N : List Str} {zs : List D} {vs : List V} (r : DVs K Z G H zs vs) : SR K Z G H (dstart N zs) (L2.start N vs) := by
  have l := r.length
  refine ⟨by unfold dstart L2.start; simp [l], fun i d e => ?_⟩
  unfold dstart at e
  unfold L2.start
  by_cases hi : i < zs.length
  · rw [List.getElem?_append_left (by rw [List.length_map]; exact hi), List.getElem?_map] at e
    rw [List.getElem?_append_left (by rw [List.length_map, ← l]; exact hi), List.getElem?_map]
    cases q : zs[i]? with
    | none => rw [q] at e; cases e
    | some z =>
      rw [q] at e
      cases e
      obtain ⟨v, h1, h2⟩ := r.get q
      exact ⟨v, by rw [h1] <;> rfl, h2⟩
  · rw [List.getElem?_append_right (by rw [List.length_map]; omega), List.getElem?_replicate] at e
    split at e <;> cases e
section
variable {P : Program} {w : World} {K : PySem.W.Frag} {mg : Str → Option Value} {base : Heap}
abbrev FnD (P : Program) (w : World) (K : PySem.W.Frag) (mg : Str → Option Value) (base : Heap) (k : Nat) (f : Addr) (fd : FuncData) (ps : List Str) (sp : SpD) : Prop := FnOk P w K mg base (L2.CX P w) k f fd ps (lowSp K sp)
/-- THE RULE for a def -/
theorem fnD {x qual : Str} {st : Stmt} {f : Addr} {fd : FuncData} {N ps : List Str} {k : Nat} {sp : SpD} {ds : DS} (F : Fun K x qual st f fd) (S : FnScope N ps (defScope st)) (len : ∀ zs G Q x, sp zs G Q x → zs.length = ps.length)
    (der : ∀ (cdv : Value) (A : Around) (outer : List Env) (s : Shared) (H : Hp) (E : XK), Room k (A.deeper (envOfC qual (defScope st) s.heap.objs.size f cdv)) →
      Takes (cxOf (L2.CX P w) P w K mg base N qual (defScope st) f cdv A outer s H E) (fun c d _ H' => E c d H') →
      PDSs (cxOf (L2.CX P w) P w K mg base N qual (defScope st) f cdv A outer s H E) (fun c d _ H' => E c d H') (defBody st) ds)
    (read : ∀ (zs : List D) (G : GH) (Q : DK) (x : XD), sp zs G Q x → ds { nx := fun _ G' => Q .non G', rt := Q, xx := fun _ => x } (dstart N zs) G) : FnD P w K mg base (k + 1) f fd ps sp := by
  refine F.okX S (fun vs H Q E ⟨Z, zs, G, Qd, x, dv, hr, h, c, xo⟩ => by rw [← dv.length]; exact len zs G Qd x h) fun cdv A outer s H vs Q E hroom ⟨Z, zs, G, Qd, x, dv, hr, h, c, xo⟩ => ?_
  refine ⟨_, der cdv A outer s H E hroom (takes_of rfl rfl rfl rfl), Z, dstart N zs, G, _, sr_start dv, hr, read zs G Qd x h, ?_⟩
  exact ⟨fun ρ' σ' G' H' f' r' s' q' => c .non .non G' H' f' r' .non q', fun z v G' H' f' r' d' q' => c z v G' H' f' r' d' q', fun _ _ _ _ _ _ _ q => q.elim, fun _ _ _ _ _ _ _ q => q.elim, fun ρ' σ' G' H' f' s' => xo.mono f'⟩
end
/-- f(e, ..) -/
def dCall (sp : SpD) (t : DA) : DE := fun ρ x G Q => t ρ x G fun zs G1 => sp zs G1 Q x
section
variable {X : Cx} {W : WX} {k : Nat} {f : Addr} {fd : FuncData} {ps : List Str} {sp : SpD} {x : Str} {p pos : Pos} {e : Expr} {es : List Expr} {t : DA}
theorem low_call {K : PySem.W.Frag} : ∀ σ H Q, lowE K W (dCall sp t) σ H Q → tCallS (lowSp K sp) (WE W) (lowA K W t) σ H Q := fun σ H Q ⟨Z, ρ, x, G, Qd, sr, hr, h, c, xo⟩ =>
  ⟨Z, ρ, x, G, _, sr, hr, h, fun zs vs G1 H1 f1 r1 d1 q1 => ⟨Z, zs, G1, Qd, x, d1, r1, q1, Ret.mono f1 c, fun C fs d fv G2 H2 f2 r2 e n p q => xo C fs d fv G2 H2 (f1.trans f2) r2 e n p q⟩, xo⟩
theorem pd_call (F : FnD X.prog X.w X.K X.mg X.base k f fd ps sp) (hr : Room k X.A) (hm : X.mg x = some (.ref f)) (hk : PySem.W.keepIn X.K (.ref f) = true) (hb : Binds X.K fd ps []) (tk : Takes X W) (ha : PDA X W (e :: es) t) (hg : Gl X x := by rfl)
    (hdb : (x == ("__debug__" : Str)) = false := by decide) (he : starEach (e :: es) X.env = (false, eval e X.env) :: starEach es X.env := by rfl) (hpl : (backTo pos (starEach es X.env)).any (·.1) = false := by rfl) :
    PD X W (.Call (.Name x p) (e :: es) [] pos) (dCall sp t) := PE.imp (pe_callS F hr hg hm hk hb (fun σ => passAt tk σ) ha hdb he hpl) low_call
end
end TD
/-! # TD, 8: own errors whose __init__ says super().__init__(x); self.f = x, below an own error class, below ValueError -/
namespace ErrX
open PySem PySem.W PySem.Calls PyProof.Rows PySem.HandSPX

inductive EF where
  | name | word | line
def EF.fld : EF → Str
  | .name => "name"
  | .word => "word"
  | .line => "line"
def EF.cls : EF → Str
  | .name => "BadArgument"
  | .word => "NotPossible"
  | .line => "BadText"
def EF.qual : EF → Str
  | .name => "BadArgument.__init__"
  | .word => "NotPossible.__init__"
  | .line => "BadText.__init__"
def iA (f : Str) (p1 p2 : Pos) : Arguments := { posonlyargs := [], args := [{ arg := "self", annotation := none, pos := p1 }, { arg := f, annotation := none, pos := p2 }], vararg := none, kwonlyargs := [], kw_defaults := [], kwarg := none, defaults := [] }
def iB (f : Str) (p0 p1 p2 p3 p4 p5 q1 q2 q3 q4 : Pos) : List Stmt :=
  [.Expr (.Call (.Attribute (.Call (.Name "super" p0) [] [] p1) "__init__" p2) [.Name f p3] [] p4) p5, .Assign [.Attribute (.Name "self" q1) f q2] (.Name f q3) q4]
def iS (f : Str) : Scope := { kind := .function, names := [(PySem.Str.ofString "self", .local), (f, .local), (PySem.Str.ofString "__class__", .free), (PySem.Str.ofString "super", .globalImplicit)], isGenerator := false, isCoroutine := false, more := [] }
/-- what the written part says of the class, at C, and of its __init__, at fI -/
structure Txt (P : Program) (K : Frag) (mg : Str → Option Value) (ef : EF) (C fI : Addr) : Prop where
  gC : mg ef.cls = some (.ref C)
  gS : mg "super" = none
  top : (P.main.scope.names.lookup ("super" : Str)).isSome = false
  cls : ∃ nm q N bs bm sn sub ab col dd k0 k1 k2 k3 k5, K.lookup C = some (excClassObj nm q C N bs bm true sn sub ab col dd k0 k1 k2 k3 k5 "ValueError.__new__") ∧ refsVE bm = true ∧ alongIn K "__init__" bm = some (some (.builtin "ValueError.__init__"))
  sa : findIn K (.ref C) "__setattr__" = some (some (.builtin "object.__setattr__"))
  ga : findIn K (.ref C) "__getattribute__" = some (some (.builtin "BaseException.__getattribute__"))
  gg : findIn K (.ref C) "__getattr__" = some none
  noN : findIn K (.ref C) ef.fld = some none
  iC : findIn K (.ref C) "__init__" = some (some (.ref fI))
  tC : typeIn K (.ref fI) = some (.type "function")
  kC : keepIn K (.ref C) = true
  exC : subIn K (.ref C) (.type "BaseException") = some true
  veC : subIn K (.ref C) (.type "ValueError") = some true
  slf : mroIn K C (.ref C) = some true
  tyC : typeIn K (.ref C) = some (.type "type")
  hdC : hasDictIn K C = true
  te : exmOne K (.ref C) (.ref C) = some true
  op : nsIn K cStatics "thirdparty.any" = some none
  fn : ∃ (oc : Value) (od : Option Addr) (doc pm : Value) (an : Option Addr) (cda : Addr) (ct : Value) (cc : Addr) (osl : Array (Option Value)) (p1 p2 r0 r1 r2 r3 r4 r5 q1 q2 q3 q4 : Pos),
    K.lookup fI = some ⟨oc, od, .func (ksFn "__init__" ef.qual (iA ef.fld p1 p2) (iB ef.fld r0 r1 r2 r3 r4 r5 q1 q2 q3 q4) (iS ef.fld) .none .none doc pm an (.ref cda) ct cc), osl⟩ ∧ codeIn K (.ref cda) ef.qual = true ∧ (r2.endLine == r4.line) = true ∧
    (∃ ccl cdd vs ccs file tf, K.lookup cda = some ⟨ccl, cdd, .fields vs, ccs⟩ ∧ vs[2]? = some (.str file tf) ∧ ((P.main.file : Str) == file) = true) ∧
    ∃ cl cld csl, K.lookup cc = some ⟨cl, cld, .cell (some (.ref C)), csl⟩
theorem nocell (ef : EF) : ∀ x ∈ (iS ef.fld).names, x.2 ≠ .cell := by cases ef <;> decide
theorem bloc (ef : EF) (u v : Value) : ∀ y ∈ [((PySem.Str.ofString "self" : Str), u), (ef.fld, v)], (iS ef.fld).names.lookup y.1 = some .local := by
  intro y hy
  rcases List.mem_cons.mp hy with rfl | hy
  · cases ef <;> rfl
  · obtain rfl := List.mem_singleton.mp hy
    cases ef <;> rfl
theorem one_size (v : Value) : [v].length ≤ sizeLine := by
  rw [sizeLine_eq]
  exact (by decide : 1 ≤ 16777216)
theorem drop_own (C : Addr) (l : List Value) : ((Value.ref C :: l).dropWhile (· != .ref C)).drop 1 = l := by
  simp [List.dropWhile_cons]
/-- what __init__ leaves of a fresh exception at x -/
structure InitEnd (ef : EF) (h h' : Heap) (x C dx t1 : Addr) (v : Value) : Prop where
  keep : ∀ b o, b ≠ x → h.get? b = some o → h'.get? b = some o
  obj : h'.get? x = some { cls := .ref C, dict := some dx, data := .fields #[.ref t1, .none, .none, .none, .bool false, .none] }
  dbig : h.objs.size ≤ dx
  dne : dx ≠ x
  ns : h'.Ns1 dx (fun y => if y = ef.fld then some v else none)
/-- a made one -/
structure OwnMade (ef : EF) (h h' : Heap) (e C d : Addr) (v : Value) : Prop where
  keep : ∀ b o, h.get? b = some o → h'.get? b = some o
  new : h.objs.size ≤ e
  obj : ∃ oe vs, h'.get? e = some oe ∧ oe.cls = .ref C ∧ oe.dict = some d ∧ oe.data = .fields vs ∧ vs[1]? = some .none
  dbig : h.objs.size ≤ d
  dne : d ≠ e
  ns : h'.Ns1 d (fun y => if y = ef.fld then some v else none)
section
variable {prog : Program} {w : World} {A : Around} {E : Value → Shared → Prop} {R : Result → Shared → Prop} {s : Shared} {K : Frag} {mg : Str → Option Value} {ef : EF} {C fI : Addr}
/-- ValueError.__init__ bound to a fresh exception, called -/
theorem call_mw {h : Heap} {g : Array GenState} {d : Drawn} {t : Nat} {os : OsState} {nm q : Str} {N : Addr} {bs bm : List Value} {hdct : Bool} {sn : List Str} {sub : List Value} {ab : Bool} {col : Option Bool} {dd : Option Addr} {k0 k1 k2 k3 k5 : Option Value}
    {u e t0 : Addr} {rest : List Value} {Q : Value → Shared → Prop}
    (hC : h.get? C = some (excClassObj nm q C N bs bm hdct sn sub ab col dd k0 k1 k2 k3 k5 "ValueError.__new__")) (he : h.get? e = some (excO C t0)) (hu : h.get? u = some (kxs_mw "ValueError.__init__" e)) (hrest : rest.length ≤ sizeLine)
    (hq : ∀ h' t1, (∀ b o, b ≠ e → h.get? b = some o → h'.get? b = some o) → h'.get? e = some (excO C t1) → h.objs.size ≤ h'.objs.size → Q .none ⟨h', g, d, t, os⟩) :
    wpAny (model prog w) A (call (.ref u) rest) Q E ⟨h, g, d, t, os⟩ := by
  refine wpAny_call (codeAny_of_tree ?_)
  show wpAny _ A.in1 (callAny (.ref u) ⟨rest, []⟩) _ _ _
  simp only [callAny]
  refine wpAny_bind (wpAny_load hu ?_)
  simp only [kxs_mw, show (Value.type "method-wrapper" == Value.type "method" || Value.type "method-wrapper" == Value.type "builtin_function_or_method" || Value.type "method-wrapper" == Value.type "method-wrapper") = true by decide, if_true]
  refine KFB.if_so (by decide) ?_
  refine wpAny_bind (check_bound_init PySem.F.excBase_ValueError.toExcCallFacts hC he rfl ?_)
  refine wpAny_bind (wpAny_pure (wpAny_pure ?_))
  refine ⟨plainId_quiet PySem.F.excBase_ValueError.init.plain _, codeAny_builtin PySem.F.excBase_ValueError.initEntry ?_⟩
  refine exc_init_tree (cls := .ref C) (t0 := t0) (dv := none) (c2 := .none) (c3 := .none) (b4 := .bool false) he hrest fun h' k e' t' => hq h' _ k e' ?_
  exact Nat.le_of_lt (Heap.lt_size t')
theorem ldK {M : Model} {s : Shared} {name : Str} {scope : Scope} {L a cc : Addr} {cd : Value} {m : Str → Option Value} {x : Str} {pos : Pos} {v : Value} {Q : Value → Shared → Prop} {A : Around} {E : Value → Shared → Prop} (hn : s.heap.Ns L m) (hv : m x = some v) (h : Q v s)
    (hk : scope.kind = .function) (hl : (ksEnv name scope L a cd cc).kindOf x = some .local) (hd : (x == ("__debug__" : Str)) = false) :
    wpAny M A (eval (.Name x pos) (ksEnv name scope L a cd cc)) Q E s := wpAny_Name (wpAny_loadName_local hk hl hn hv h) hd
theorem call_tree {f : Str} {p0 p1 p2 p3 p4 : Pos} {env : Env} (hl : (p2.endLine == p4.line) = true) (hf : methodCallForm 1 (backTo p4 (starEach [.Name f p3] env)) [] = true) :
    eval (.Call (.Attribute (.Call (.Name "super" p0) [] [] p1) "__init__" p2) [.Name f p3] [] p4) env = (do
      let ov ← attributeBase (.Call (.Name "super" p0) [] [] p1) "__init__" env (eval (.Call (.Name "super" p0) [] [] p1) env)
      standAt p2.atName
      let (f', first) ← holding [ov] (getMethod ov "__init__" (L2.plainOf (.Call (.Name "super" p0) [] [] p1) env))
      callWith p4 f' first (backTo p4 (starEach [.Name f p3] env)) []) := by
  rw [arm_eval_Call]
  have e : ∀ ov, methodCall (.Call (.Name "super" p0) [] [] p1) "__init__" p2 p4 env ov ([Expr.Name f p3].length + ([] : List Keyword).length) (backTo p4 (starEach [.Name f p3] env)) (backToKw p4 (keywordEach [] env)) = (do
      let (f', first) ← holding [ov] (getMethod ov "__init__" (L2.plainOf (.Call (.Name "super" p0) [] [] p1) env))
      callWith p4 f' first (backTo p4 (starEach [.Name f p3] env)) []) := fun ov => L2.mcall_line hf hl
  simp only [e]
theorem err_init (T : Txt prog K mg ef C fI) {x t0 : Addr} {v : Value} (M : L2.Mod K mg s.heap) (hx : s.heap.get? x = some (excO C t0)) (hnx : K.lookup x = none) (hroom : A.depth < recursionLimit)
    (hq : ∀ h' tk dx t1, InitEnd ef s.heap h' x C dx t1 v → R (.ok (.ret .none)) { s with heap := h', toks := tk }) :
    codeAny (model prog w) A (.call (.ref fI) ⟨[.ref x, v], []⟩) R s := by
  obtain ⟨oc, od, doc, pm, an, cda, ct, cc, osl, p1, p2, r0, r1, r2, r3, r4, r5, q1, q2, q3, q4, ho, hcd, hline, ⟨ccl, cdd, vs, ccs, file, tf, hcode, hvs, hfile⟩, cl, cld, csl, hcell⟩ := T.fn
  obtain ⟨nm, q, N, bs, bm, sn, sub, ab, col, dd, k0, k1, k2, k3, k5, hC, hbm, hal⟩ := T.cls
  have X := M.kin
  have hcl : clsIn K C = some { name := nm, bases := bs, mro := .ref C :: bm, ns := N, qualname := q, hasDict := true, slotNames := sn, subclasses := sub, abstract := ab, collection := col, hasDel := false } := by unfold clsIn; rw [hC] <;> rfl
  refine ks_codeAny_call_defAt (binds := [(PySem.Str.ofString "self", .ref x), (ef.fld, v)]) hroom (X _ _ ho) rfl M.nolimit (codeRec_of X hcd) rfl (BindsTo.of_eq (by cases ef <;> first | rfl | with_unfolding_all rfl)) (nocell ef) (bloc ef _ _) (fun h₁ hn k => ?_) rfl rfl rfl
  have hxL : s.heap.objs.size ≠ x := Nat.ne_of_gt (Heap.lt_size hx)
  have X₁ : K.In h₁ := X.keeps k
  have hx₁ := k _ _ hx
  have hsz : s.heap.objs.size < h₁.objs.size := hn.lt
  have lkS : List.lookup (PySem.Str.ofString "self") ([(PySem.Str.ofString "self", Value.ref x), (ef.fld, v)] : List (Str × Value)).reverse = some (Value.ref x) := by cases ef <;> rfl
  have lkF : List.lookup ef.fld ([(PySem.Str.ofString "self", Value.ref x), (ef.fld, v)] : List (Str × Value)).reverse = some v := by cases ef <;> rfl
  -- super()
  refine ks_wpAt_execs_cons (ks_wpAt_Expr_any (ks_wpAt_MethodCall (pl := L2.plainOf _ _) ?_ (call_tree hline ?_)) ?_ ?_)
  · obtain ⟨mb, hb1, hb2⟩ := M.blt
    refine ks_wpAt_super_base (f := fI) (cc := cda) (by cases ef <;> rfl) (by cases ef <;> rfl) (by decide) rfl (X₁ _ _ ho) rfl (ar := { arg := "self", annotation := none, pos := p1 }) rfl rfl (X₁ _ _ hcode) rfl hvs hfile T.top ?_
    refine ks_loadName_global rfl (by cases ef <;> rfl) (loadGlobal_builtin (M.glob.keeps k) T.gS (hb1.keeps k) ((hb2 _ (by decide)).trans (by decide +kernel : bootBuiltins "super" = some (.type "super"))) ⟨rfl, ?_⟩)
    refine wpAny_loadName_free rfl (by cases ef <;> rfl) rfl ⟨_, X₁ _ _ hcell, rfl⟩ ?_
    refine wpAny_loadName_local rfl (by cases ef <;> rfl) hn lkS ?_
    refine ks_wpAny_isType_cls (X₁ _ _ hC) rfl ⟨rfl, ?_⟩
    refine ks_wpAny_call_super (X₁ _ _ hC) rfl hx₁ rfl (fun c e => by cases e) (looks_mroIn X₁ T.slf) (fun h₂ e₂ k₂ => ?_)
    -- .__init__
    have X₂ : K.In h₂ := X₁.keeps k₂
    have hx₂ := k₂ _ _ hx₁
    have I₂ : InstAt h₂ x (excO C t0) C none := ⟨hx₂, rfl, rfl, trivial⟩
    have hI : Looks (model prog w) h₂ (isInstance (.ref x) (.type "ValueError")) true := I₂.type.andThen (looks_subIn X₂ T.veC)
    refine kxs_getMethod (l₀ := .ref C :: bm) kxs_ValueError e₂ (looks_opaque X₂ T.op) (fun A Q E s k q => wpAny_bind ((looks_clsIn X₂ hcl) A _ E s k (wpAny_pure q))) (drop_own C bm) X₂ hal hI (fun z => ?_) (by decide) ?_
    · have := X _ _ hC
      rw [← z, hx] at this
      cases this
    · have k₃ : ∀ b o, h₂.get? b = some o → (h₂.push (kxs_mw "ValueError.__init__" x)).get? b = some o := fun b o e => Heap.get?_push_of_some _ e
      have hu : (h₂.push (kxs_mw "ValueError.__init__" x)).get? h₂.objs.size = some (kxs_mw "ValueError.__init__" x) := Heap.get?_push_at rfl rfl
      have hn₂ : (h₂.push (kxs_mw "ValueError.__init__" x)).Ns s.heap.objs.size (fun y => List.lookup y ([(PySem.Str.ofString "self", Value.ref x), (ef.fld, v)] : List (Str × Value)).reverse) := hn.keeps fun b o e => k₃ b o (k₂ b o e)
      have xu : x ≠ h₂.objs.size := Nat.ne_of_lt (Heap.lt_size hx₂)
      refine kxs_callWith (i := "ValueError.__init__") (x := x) (by cases ef <;> rfl) ?_
      refine evalArgs_plain ?_
      refine spliced_cons ?_
      refine ldK hn₂ lkF ?_ rfl (by cases ef <;> rfl) (by cases ef <;> decide)
      refine spliced_nil ?_
      refine ⟨hu, ?_⟩
      refine call_mw (X₂.keeps k₃ _ _ hC) (k₃ _ _ hx₂) hu (one_size v) (fun h₅ t1 k₅ hx₅ z₅ => ?_)
      -- self.f = f
      have k5 : ∀ b o, b ≠ x → h₁.get? b = some o → h₅.get? b = some o := fun b o hb e => k₅ b o hb (k₃ b o (k₂ b o e))
      have hn₅ : h₅.Ns s.heap.objs.size (fun y => List.lookup y ([(PySem.Str.ofString "self", Value.ref x), (ef.fld, v)] : List (Str × Value)).reverse) := by
        obtain ⟨o1, es, ep, e1, r⟩ := hn
        exact ⟨o1, es, ep, k5 _ _ hxL e1, r⟩
      have X₅ : K.In h₅ := fun a o e => k5 a o (fun z => by rw [z, hnx] at e; cases e) (X₁ a o e)
      refine wpAt_of_wpAny ?_
      refine wpAny_execs_cons (plainObj_wpAny_Assign_Attribute ?_)
      refine ldK hn₅ lkF ?_ rfl (by cases ef <;> rfl) (by cases ef <;> decide)
      refine ldK hn₅ lkS ?_ rfl (by cases ef <;> rfl) (by decide)
      refine set_plain X₅ (ox := excO C t1) (od := none) ⟨hx₅, rfl, rfl, trivial⟩ T.sa ?_
      refine exc_osa X₅ hx₅ hcl (show refsVE (.ref C :: bm) = true from hbm) rfl T.noN (fun h₆ tk₆ dx k₆ dn dne hx₆ hn₆ => ?_)
      show wpAny _ _ (execs _ _) _ _ _
      refine wpAny_execs_nil (hq h₆ tk₆ dx t1 ⟨fun b o hb e => k₆ b o hb (k5 b o hb (k b o e)), hx₆, ?_, dne, hn₆⟩)
      have z3 : h₂.objs.size ≤ (h₂.push (kxs_mw "ValueError.__init__" x)).objs.size := by rw [Heap.size_push]; exact Nat.le_succ _
      have z2 : s.heap.objs.size < h₂.objs.size := Heap.lt_size (k₂ _ _ hn.choose_spec.choose_spec.choose_spec.1)
      exact Nat.le_trans (Nat.le_of_lt z2) (Nat.le_trans z3 (Nat.le_trans z₅ dn))
  · cases ef <;> rfl
  · rfl
  · rfl
theorem err_made (T : Txt prog K mg ef C fI) {v : Value} (M : L2.Mod K mg s.heap) (hroom : A.depth + 1 < recursionLimit)
    (hq : ∀ h' tk e d, OwnMade ef s.heap h' e C d v → R (.ok (.ret (.ref e))) { s with heap := h', toks := tk }) :
    codeAny (model prog w) A (.call (.ref C) ⟨[v], []⟩) R s := by
  obtain ⟨nm, q, N, bs, bm, sn, sub, ab, col, dd, k0, k1, k2, k3, k5, hC, hbm, hal⟩ := T.cls
  have X := M.kin
  obtain ⟨hp, g, dr, tk, os⟩ := s
  have k : ∀ b o, hp.get? b = some o → ((hp.push (kdv_tup [v])).push (excO C hp.objs.size)).get? b = some o := fun b o e => Heap.get?_push_of_some _ (Heap.get?_push_of_some _ e)
  have hget : ((hp.push (kdv_tup [v])).push (excO C hp.objs.size)).get? (hp.objs.size + 1) = some (excO C hp.objs.size) := by heap_get
  have hnx : K.lookup (hp.objs.size + 1) = none := by
    cases e : K.lookup (hp.objs.size + 1) with
    | none => rfl
    | some o =>
      have z : hp.get? (hp.objs.size + 1) = some o := X _ _ e
      exact absurd (Nat.lt_of_succ_lt (Heap.lt_size z)) (Nat.lt_irrefl _)
  have M' : L2.Mod K mg ((hp.push (kdv_tup [v])).push (excO C hp.objs.size)) := by
    obtain ⟨mb, hb1, hb2⟩ := M.blt
    exact ⟨X.keeps k, M.glob.keeps k, ⟨mb, hb1.keeps k, hb2⟩, M.nolimit.keeps k⟩
  refine call_own PySem.F.excBase_ValueError (fun X => refsVE_contains X bm hbm) (X _ _ hC) (looks_findIn X T.iC) (fun self => bind_fn X self T.tC) (one_size v) ?_
  refine err_init (s := ⟨(hp.push (kdv_tup [v])).push (excO C hp.objs.size), g, dr, tk, os⟩) T M' hget hnx ?_ fun h' tk' dx t1 ⟨k', hx, dn, dne, hns⟩ => ?_
  · show A.depth + 1 < recursionLimit
    exact hroom
  · have old : ∀ b o, hp.get? b = some o → h'.get? b = some o := fun b o e => k' b o (Nat.ne_of_lt (Nat.lt_succ_of_lt (Heap.lt_size e))) (k b o e)
    have z : hp.objs.size + 1 + 1 ≤ dx := by
      first
        | (simpa only [Heap.size_push] using dn)
        | exact dn
        | (have q := dn; rw [Heap.size_push, Heap.size_push] at q; exact q)
    exact ⟨rfl, hq h' tk' (hp.objs.size + 1) dx ⟨old, Nat.le_succ _, ⟨_, _, hx, rfl, rfl, rfl, rfl⟩, Nat.le_trans (Nat.le_trans (Nat.le_succ _) (Nat.le_succ _)) z, dne, hns⟩⟩
end
end ErrX
namespace TD
open PySem PySem.Spec PyProof.Rows L2
open ErrX (EF)
theorem relO_err {v : V} {v' : Value} {g : Str} (r : RelV v v') (f : Str) : RelO (List.lookup f [(g, v)]) (if f = g then some v' else none) := by
  by_cases hw : f = g
  · subst hw
    rw [if_pos rfl]
    have q : List.lookup f [(f, v)] = some v := by simp [List.lookup]
    rw [q]
    exact r
  · rw [if_neg hw]
    have qw : (f == g) = false := by simpa using hw
    have q2 : List.lookup f [(g, v)] = none := by simp [List.lookup, qw]
    rw [q2]
    trivial
section
variable {X : Cx} {W : WX} {ef : EF} {C fI : Addr} {k : Nat}
/-- Err(e) -/
def tMkErr (C : Addr) (f : Str) (ta : TA) : L2.St → Hp → XK → Prop := fun σ H Q => ta σ H fun vs H1 => ∃ v, vs = [v] ∧ ∀ d, H1 d = none → Q (.ref C) (some d) (upd H1 d (.xd [(f, v)]))
theorem pmk_err {a : Expr} {ta : TA} {x : Str} {p pos : Pos} (T : ErrX.Txt X.prog X.K X.mg ef C fI) (hr : Room k X.A) (hr1 : 1 ≤ k) (ha : PA X [a] ta) (hx : x = ef.cls) (hg : Gl X x := by rfl)
    (he : starEach (a :: []) X.env = (false, eval a X.env) :: starEach [] X.env := by rfl) (hpl : (backTo pos (starEach [] X.env)).any (·.1) = false := by rfl) :
    PMk X (.Call (.Name x p) [a] [] pos) (tMkErr C ef.fld ta) := by
  subst hx
  intro pins s σ H Q I h
  refine wpAny_Call_Name_kw (ld_glob I hg T.gC ?_ (by cases ef <;> decide))
  refine PySem.W.callWith_K (h₀ := X.base) I.ok.mod.kin T.kC (thn (ha.run pos pins s σ H _ I h) fun us s1 hh => ?_) he hpl
  obtain ⟨vs, H1, I1, r1, v, ev, q1⟩ := hh
  subst ev
  refine ⟨I1.kIn, ?_⟩
  cases r1 with
  | cons rv rn =>
    rename_i v' us'
    cases rn
    show wpAny _ _ (call (.ref C) [v']) _ _ _
    have hM : Mod X.K X.mg s1.heap := by
      obtain ⟨mb, hb1, hb2⟩ := I1.ok.mod.blt
      exact ⟨I1.kIn, I1.ok.mod.glob.keeps I1.bk, ⟨mb, hb1.keeps I1.bk, hb2⟩, I1.nolimit⟩
    obtain ⟨hp, g, dr, tk, os⟩ := s1
    refine wpAny_call (ErrX.err_made T hM (by have := hr.dp; omega) fun h' tk' e d M => ?_)
    show MkP X pins σ Q (.ref e) ⟨h', g, dr, tk', os⟩
    obtain ⟨oe, fv, hoe, hc, hd, hdat, h1⟩ := M.obj
    have hns := M.ns
    obtain ⟨G', g1, g2⟩ := restrict h' fun b => decide (b ≠ e)
    have gk : ∀ b, b ≠ e → G'.get? b = h'.get? b := fun b hb => g1 b (decide_eq_true hb)
    have ge : G'.get? e = none := g2 e (by simp)
    have old : ∀ b o, hp.get? b = some o → G'.get? b = some o := fun b o q => (gk b (Nat.ne_of_lt (Nat.lt_of_lt_of_le (Heap.lt_size q) M.new))).trans (M.keep b o q)
    have ob : ObjOk X.prog X.w (upd H1 d (.xd [(ef.fld, v)])) G' d (.xd [(ef.fld, v)]) :=
      ⟨_, hns.at (fun o q => (gk d M.dne).trans q), fun f => relO_err rv f⟩
    have J : Inv X pins σ (upd H1 d (.xd [(ef.fld, v)])) ⟨G', g, dr, tk', os⟩ := I1.laid (t' := tk') old M.dbig ob
    refine ⟨e, oe, fv, ⟨G', g, dr, tk', os⟩, _, .ref C, some d, rfl, J, fun b o q => ?_, ge, hoe, ⟨hc, hd⟩, hdat, h1, ?_, rfl, I1.bare, raises_own T.exC T.tyC, q1 d (I1.hok.fresh M.dbig)⟩
    · by_cases hb : b = e
      · have q' : G'.get? b = some o := q
        rw [hb, ge] at q'; cases q'
      · exact (gk b hb).symm.trans q
    · rw [upd_ne (Ne.symm M.dne)]
      exact I1.hok.fresh M.new
def tRaiseErr (C : Addr) (f : Str) (W : WX) (ta : TA) : TS := fun _ σ H => tMkErr C f ta σ H fun cls d H' => W cls d σ H'
/-- raise Err(e) -/
def dRaise (C : Addr) (f : Str) (a : DE) : DS := fun D ρ G => a ρ (D.xx ρ) G fun z G1 => D.xx ρ C [(f, z)] G1
theorem pds_raise {a : Expr} {x : Str} {da : DE} {p pos pos2 : Pos} (hc : X.calm = true) (T : ErrX.Txt X.prog X.K X.mg ef C fI) (hr : Room k X.A) (hr1 : 1 ≤ k) (tk : Takes X W) (ha : PD X W a da) (hx : x = ef.cls) (hg : Gl X x := by rfl)
    (he : starEach (a :: []) X.env = (false, eval a X.env) :: starEach [] X.env := by rfl) (hpl : (backTo pos (starEach [] X.env)).any (·.1) = false := by rfl) :
    PDS X W (.Raise (some (.Call (.Name x p) [a] [] pos)) none pos2) (dRaise C ef.fld da) :=
  PS.imp (ps_raise hc tk (pmk_err T hr hr1 (pa_cons ha pa_nil he) hx hg he hpl)) fun E σ H ⟨Z, ρ, G, Dd, sr, hr, h, ok⟩ =>
    ⟨Z, ρ, Dd.xx ρ, G, _, sr, hr, h, fun z v G1 H1 f1 r1 d1 q1 => ⟨v, rfl, fun d hd =>
      ok.xx ρ σ G H (Fr.refl G H) sr C [(ef.fld, z)] d [(ef.fld, v)] G1 _ (f1.trans (Fr.new hd)) (r1.new hd) upd_same (r1.free hd) (.cons ⟨rfl, d1.mono (Fr.new hd)⟩ .nil) q1⟩, ok.xo sr⟩
end
end TD
/-! # TD, 9: a lambda handed to a def that calls it in a try -/
namespace TD
open PySem PySem.Spec PyProof.Rows L2
open LamX (CodeO TabB LamS lamEnv lamCx)
section
variable {X : Cx} {pins : List (Addr × Obj)} {σ : L2.St} {H : Hp} {s : Shared}
/-- the abstract heap behind the making of a lambda: as it was, or the table one code object longer -/
def Grown (H H1 : Hp) (P c' : Addr) (q : Str) (ps : Array Value) : Prop :=
  H1 = H ∨ (H c' = none ∧ ∃ l k : Nat, H1 = upd (upd H P (.tbl (ps ++ #[rawInt l, rawInt k, .ref c']))) c' (CodeO c' q))
theorem lam_makeP {c P : Addr} {ps : Array Value} {params : Arguments} {body : Expr} {scope : Scope} {pos : Pos} {E : Value → Shared → Prop} {Q : Value → Shared → Prop} (I : Inv X pins σ H s) (TB : TabB X.base X.mg c P) (hcode : X.env.code = .ref c)
    (hP : H P = some (.tbl ps)) (ht : TriplesOk ps.toList) (ha : ∀ (pos : Pos) (cv : Value), codeAmong pos ps.toList = some cv → ∃ c, cv = .ref c ∧ H c = some (CodeO c (X.env.qual ++ "<lambda>")))
    (hdef : defaultsOf params X.env = ([], [])) (hfree : ∀ y ∈ scope.names, y.2 = .free → ∃ c, X.env.cells.lookup y.1 = some c)
    (h : ∀ (f c' : Addr) (pm ctv : Value) (H1 : Hp) (s' : Shared), Grown H H1 P c' (X.env.qual ++ "<lambda>") ps → Inv X pins σ H1 s' →
      s'.heap.get? f = some (PySem.W.kla_obj "<lambda>" (X.env.qual ++ "<lambda>") params body scope (cloFrom X.env.cells scope.names []) pm c' ctv) → H1 f = none → f ∉ frs X.stack → H1 c' = some (CodeO c' (X.env.qual ++ "<lambda>")) → Q (.ref f) s') :
    wpAny (model X.prog X.w) X.A (eval (.Lambda params body scope pos) X.env) Q E s := by
  have nf : ∀ f, s.heap.objs.size ≤ f → f ∉ frs X.stack := fun f hf z => by
    rcases List.mem_cons.mp (I.stkSub _ z) with e | e
    · have h1 := I.lt
      rw [← e] at h1
      exact absurd (Nat.lt_of_lt_of_le h1 hf) (Nat.lt_irrefl _)
    · exact I.nofs hf e
  have hPs : s.heap.get? P = some { cls := .none, data := .fields ps } := I.hok P _ hP
  refine PySem.W.kla_eval hdef ?_
  cases hc : codeAmong pos ps.toList with
  | some cv =>
    obtain ⟨c', e, hco⟩ := ha pos cv hc
    subst e
    refine PySem.W.kla_makeFunctionHit (mg := X.mg) (c := c) (P := P) (ps := ps) (closure_ok hfree) I.ok.glob (I.mod.glob.keeps I.bk) hcode (TB.code.keeps I.bk) hPs ht hc (TB.bm.keeps I.bk) fun ctv h' tk hx hsz => ?_
    have J : Inv X pins σ H { s with heap := h'.push (PySem.W.kla_obj "<lambda>" (X.env.qual ++ "<lambda>") params body scope (cloFrom X.env.cells scope.names []) ((X.mg "__name__").getD .none) c' ctv), toks := tk } :=
      I.kept fun b o e => Heap.get?_push_of_some _ (hx b o e)
    exact h h'.objs.size c' _ ctv H _ (.inl rfl) J (Heap.get?_push_size _ rfl) (I.hok.fresh hsz) (nf _ hsz) hco
  | none =>
    refine PySem.W.kla_makeFunction (mg := X.mg) (c := c) (P := P) (ps := ps) (closure_ok hfree) I.ok.glob (I.mod.glob.keeps I.bk) hcode (TB.code.keeps I.bk) hPs ht hc TB.gP (TB.bm.keeps I.bk) fun c' ctv h' tk hx hge hlt hrec htb => ?_
    obtain ⟨c2, oc, vs, t, e2, hoc, hd, hv⟩ := hrec
    cases e2
    have nC : H c' = none := I.hok.fresh hge
    have J := LamX.inv_table (t' := tk) (more := #[rawInt pos.line, rawInt pos.col, .ref c']) (h' := h'.push (PySem.W.kla_obj "<lambda>" (X.env.qual ++ "<lambda>") params body scope (cloFrom X.env.cells scope.names []) ((X.mg "__name__").getD .none) c' ctv))
      I hP (fun b o hb e => Heap.get?_push_of_some _ (hx b o hb e)) (Heap.get?_push_of_some _ htb) hge ⟨oc, vs, t, Heap.get?_push_of_some _ hoc, hd, hv⟩
    have big : s.heap.objs.size ≤ h'.objs.size := Nat.le_trans hge (Nat.le_of_lt hlt)
    refine h h'.objs.size c' _ ctv _ _ (.inr ⟨nC, _, _, rfl⟩) J (Heap.get?_push_size _ rfl) ?_ (nf _ big) upd_same
    rw [upd_ne (Nat.ne_of_gt hlt), upd_ne (Nat.ne_of_gt (Nat.lt_of_lt_of_le (Heap.lt_size hPs) big))]
    exact I.hok.fresh big
end
/-- nothing told is lost when a table grows -/
theorem grown_fr {G : GH} {H H1 : Hp} {P c' : Addr} {q : Str} {ps : Array Value} (g : Grown H H1 P c' q ps) (hP : H P = some (.tbl ps)) (hG : G P ≠ none) : Fr G H G H1 := by
  rcases g with e | ⟨nC, l, k, e⟩
  · rw [e]; exact Fr.refl _ _
  · intro b o hb hn
    refine ⟨?_, hn⟩
    rw [e, upd_ne (ne_of_none hb nC), upd_ne (fun z => hG (by rw [← z]; exact hn))]
    exact hb
theorem grown_hr {K : PySem.W.Frag} {Z : Addr → Prop} {G : GH} {H H1 : Hp} {P c' : Addr} {q : Str} {ps : Array Value} (g : Grown H H1 P c' q ps) (r : HR K Z G H) (hP : H P = some (.tbl ps)) (hG : G P = some (.tab q)) : HR K Z G H1 := by
  have f := grown_fr (G := G) g hP (by rw [hG]; exact fun z => nomatch z)
  rcases g with e | ⟨nC, l, k, e⟩
  · rw [e]; exact r
  · have gc : G c' = none := r.free nC
    refine ⟨fun a m hm => ?_, fun a z => hid_mono f (r.hid a z)⟩
    by_cases ha : a = P
    · rw [ha, hG] at hm
      cases hm
      obtain ⟨ps', h1, h2, h3⟩ := r.at_ P _ hG
      rw [hP] at h1
      cases h1
      have eL : (ps ++ #[rawInt l, rawInt k, .ref c']).toList = ps.toList ++ [rawInt l, rawInt k, .ref c'] := by simp
      rw [ha]
      refine ⟨_, by rw [e, upd_ne (ne_of_none hP nC), upd_same], by rw [eL]; exact PySem.TriplesOk_snoc _ _ _ _ h2, fun pos cv hc => ?_⟩
      rw [eL] at hc
      rcases LamX.among_app (pos := ⟨l, k, l, k⟩) _ h2 hc with z | z
      · obtain ⟨c0, e1, e2, e3⟩ := h3 pos cv z
        exact ⟨c0, e1, (f _ _ e2 e3).1, e3⟩
      · exact ⟨c', z, by rw [e]; exact upd_same, gc⟩
    · have ho := r.at_ a m hm
      refine ho.keep f ?_
      rw [e, upd_ne, upd_ne ha]
      intro z
      exact ho.some (by rw [z]; exact nC)

/-! ### the call x(lambda: body) -/
def tLamP (P : Addr) (q : Str) (TT : (XK → Hp → VK → Prop) → Hp → VK → Prop) (t : XK → TE) : TE := fun σ H Q =>
  ∃ ps : Array Value, H P = some (.tbl ps) ∧ TriplesOk ps.toList ∧ (∀ (pos : Pos) (cv : Value), codeAmong pos ps.toList = some cv → ∃ c, cv = .ref c ∧ H c = some (CodeO c q)) ∧ ∀ c' H1, Grown H H1 P c' q ps → TT (fun E H' Q' => t E σ H' Q') H1 Q
section
variable {X : Cx}
theorem pe_lamP {TT : (XK → Hp → VK → Prop) → Hp → VK → Prop} {x a : Str} {g c P : Addr} {k : Nat} {pg : Arguments} {bg : List Stmt} {sg : Scope} {dV kV doc pm cdv ct oc : Value} {an od : Option Addr} {osl : Array (Option Value)} {Ng : List Str}
    {params : Arguments} {body : Expr} {scope : Scope} {t : XK → TE} {p lpos pos : Pos} (hg : Gl X x) (hm : X.mg x = some (.ref g)) (hk : PySem.W.keepIn X.K (.ref g) = true)
    (lk : X.K.lookup g = some ⟨oc, od, .func (PySem.W.fnOf x x pg bg sg dV kV doc pm an cdv ct), osl⟩) (hcg : PySem.W.codeIn X.K cdv x = true) (hb : L2.Binds X.K (PySem.W.fnOf x x pg bg sg dV kV doc pm an cdv ct) [a] []) (Sg : FnScope Ng [a] sg) (hNg : Ng[0]? = some a) (hva : Vis sg a)
    (hG : LamX.GivesTo X Ng x sg g cdv bg a (X.env.qual ++ "<lambda>") TT)
    (TB : TabB X.base X.mg c P) (hcode : X.env.code = .ref c) (hr : Room (k + 2) X.A) (L : LamS X.env.scope scope) (hdef : defaultsOf params X.env = ([], []))
    (hbind : ∀ (q : Str) (cl : List (Str × Addr)) (pm cv ctv : Value), bindArgs (PySem.W.kla_fn "<lambda>" q params body scope cl pm cv ctv) ⟨[], []⟩ = pure [])
    (hbody : ∀ (A : Around) (outer : List Env) (s : Shared) (H : Hp) (E : XK) (f c' : Addr), Room k (A.deeper (lamEnv X scope s.heap.objs.size f c')) → PE (lamCx X A outer s H E scope f c') body (t E))
    (hdb : (x == ("__debug__" : Str)) = false) (hd : (a == ("__debug__" : Str)) = false) (hcd : (a == ("__classdict__" : Str)) = false) :
    PE X (.Call (.Name x p) [.Lambda params body scope lpos] [] pos) (tLamP P (X.env.qual ++ "<lambda>") TT t) := ⟨fun pins s σ H Q I ⟨ps, hP, ht, ha, h⟩ => by
  refine wpAny_Call_Name_kw (ld_glob I hg hm (PySem.W.callWith_K (h₀ := X.base) I.ok.mod.kin hk ?_ (by rfl) (by rfl)) hdb)
  show wpAny _ _ (spliced ((false, eval (.Lambda params body scope lpos) X.env) :: backTo pos (starEach [] X.env))) _ _ s
  refine Calls.spliced_cons (lam_makeP I TB hcode hP ht ha hdef (L.has I.ok) fun f c' pm' ctv H1 s' gr I1 hf hfn hfr hco => Calls.spliced_nil ⟨I1.kIn, ?_⟩)
  refine wpAny_call (codeAny_mono (LamX.run_ofS (N := Ng) (ps := [a]) (us := [.ref f]) (vs := [.ref f]) (CX := C8.CX0) (E := C8.E0) (Q := Q) lk hcg Sg hr I1.env0 (hb s' [.ref f] I1.kIn rfl) (.cons rfl .nil) rfl fun hr' => ?_) fun r s2 hq => ?_)
  · obtain ⟨t', ht', hq'⟩ := hG f c' s' H1 Q (fun E H' Q' => t E σ H' Q') (fun W pn xe E p1 p2 tk hW => LamX.pe_act (i := 0) I1 L hf hfn hfr (hbind _ _ _ _ _) tk hW hr' (fun A outer s H hr2 => hbody A outer s H E f c' hr2) hNg hva hd hcd) hco (h c' H1 gr)
    exact ⟨t', ht'.nox, hq'⟩
  · cases r with
    | error e => exact (show False from hq).elim
    | ok fl => cases fl <;> first | exact I1.after hq | exact False.elim hq⟩
end

/-! ### the defs that call it -/
section
variable {X : Cx} {ef : ErrX.EF} {C fI : Addr}
/-- e.f, e the caught error -/
def tByErr (C : Addr) (f : Str) (a : Addr) (cls : Value) (d : Option Addr) (te : TE) : TE := fun σ H Q => te σ H fun x H1 => x = .ref a ∧ cls = .ref C ∧ ∃ (dd : Addr) (v : V), d = some dd ∧ H1 dd = some (.xd [(f, v)]) ∧ Q v H1
theorem pe_byErr {a : Addr} {oe : Obj} {cls : Value} {d : Option Addr} {pn : List (Addr × Obj)} {e : Expr} {te : TE} {f : Str} {pos : Pos} (T : ErrX.Txt X.prog X.K X.mg ef C fI) (ef_ : f = ef.fld) (hz : Zc cls d oe) (hf : ∃ vs, oe.data = .fields vs) (he : PE (X.suite a ((a, oe) :: pn)) e te)
    (hb : attributeBase e f X.env (eval e X.env) = eval e X.env := by rfl) :
    PE (X.suite a ((a, oe) :: pn)) (.Attribute e f pos) (tByErr C f a cls d te) := by
  subst ef_
  refine ⟨fun pins s σ H Q I h => attr_of hb (thn (he.run pins s σ H _ I h) fun u s1 hh => ?_)⟩
  obtain ⟨x, H1, I1, rx, ex, ec, dd, v, ed, ea, q⟩ := hh
  subst ex ec ed
  obtain rfl : u = Value.ref a := rx
  obtain ⟨ha, _⟩ := I1.pin (a, oe) (List.mem_append_left _ List.mem_cons_self)
  obtain ⟨vs, hd⟩ := hf
  obtain ⟨mA, hns, hr⟩ := (show ObjOk X.prog X.w H1 s1.heap dd (.xd [(ef.fld, v)]) from I1.hok dd _ ea)
  obtain ⟨od, ho, hl⟩ := lookIn_ns hns
  have l : List.lookup ef.fld [(ef.fld, v)] = some v := by simp [List.lookup]
  obtain ⟨u, hu, ru⟩ := RelO.some_of (v := v) (o := mA ef.fld) (by rw [← l]; exact hr ef.fld)
  have J : PySem.W.InstAt s1.heap a oe C (some od) := ⟨ha, hz.1, by unfold PySem.W.notCls; rw [hd] <;> rfl, by rw [hz.2]; exact ho⟩
  exact HandSPX.exc_get I1.kIn J T.ga T.gg T.exC (PySem.W.findObj_own T.hdC T.noN rfl (by rw [hl, hu])) (handed_of ru) ⟨v, H1, I1.tok _, ru, q⟩
theorem takes_len {X : Cx} {W : WX} (tk : Takes X W) : Takes X (fun c d σ H => σ.length = X.N.length → W c d σ H) := fun u s' ⟨a, B, sI, pins, σ, H, cls, d, e, I, nb, up, sky, na, os, ag, w⟩ =>
  tk u s' ⟨a, B, sI, pins, σ, H, cls, d, e, I, nb, up, sky, na, os, ag, w I.len⟩
theorem set_one {Ng : List Str} {σ : L2.St} {n : Str} {o : Option V} (l : σ.length = Ng.length) (h : Ng[1]? = some n) : (σ.set 1 o)[1]? = some o := by
  have : 1 < σ.length := by
    rw [l]
    exact (List.getElem?_eq_some_iff.mp h).1
  simp [this]
/-- try: call() / except X as e: return e.f / return "" -/
def TTa (C : Addr) (f : Str) : (XK → Hp → VK → Prop) → Hp → VK → Prop := fun tl H Q =>
  ∃ E : XK, tl E H (fun _ H' => Q (.str "") H') ∧ ∀ cls d H', E cls d H' → ∃ v dd, cls = .ref C ∧ d = some dd ∧ H' dd = some (.xd [(f, v)]) ∧ Q v H'
theorem gives_a {Ng : List Str} {x a e n q f : Str} {sg : Scope} {g : Addr} {cdg : Value} {j : Nat} {p1 p2 p3 p4 p5 p6 p7 p8 p9 p10 p11 : Pos} (T : ErrX.Txt X.prog X.K X.mg ef C fI) (ef_ : f = ef.fld) (hge : sg.names.lookup e = some .globalImplicit) (hme : e = ef.cls)
    (hnd : Ng.Nodup) (hN1 : Ng[1]? = some n) (hn : sg.names.lookup n = some .local) (hdn : (n == ("__debug__" : Str)) = false) (hcn : (n == ("__classdict__" : Str)) = false) (h0 : ∀ f : Addr, L2.start Ng [V.ref f] = [some (V.ref f), none])
    (hb : ∀ env : Env, attributeBase (.Name n p5) f env (eval (.Name n p5) env) = eval (.Name n p5) env) (hsw : ∀ env : Env, swapsWith (.Call (.Name a p1) [] [] p2) none p3.line env = pure false) :
    LamX.GivesTo X Ng x sg g cdg [.Try [.Expr (.Call (.Name a p1) [] [] p2) p3] [.ExceptHandler (some (.Name e p4)) (some n) [.Return (some (.Attribute (.Name n p5) f p6)) p7] p8] [] [] p9, .Return (some (.Constant (.str "") j p10)) p11] a q (TTa C f) := by
  intro fl c' s H Q tl act hc h
  have hgl : Gl (cxOf C8.CX0 X.prog X.w X.K X.mg X.base Ng x sg g cdg X.A X.stack s H C8.E0).nox e := hge
  have hde : (e == ("__debug__" : Str)) = false := by subst hme; cases ef <;> decide
  obtain ⟨E, h1, h3⟩ := h
  refine ⟨_, pss_cons (ps_try_as (X := (cxOf C8.CX0 X.prog X.w X.K X.mg X.base Ng x sg g cdg X.A X.stack s H C8.E0).nox) (c := .ref C) (i := 1)
      (tb := fun W D σ H => ∃ Ech : XK, (∀ cls d σ' H', σ'.length = Ng.length → Ech cls d H' → W cls d σ' H') ∧ σ[0]? = some (some (.ref fl)) ∧ H c' = some (CodeO c' q) ∧ tl Ech H fun _ H' => D.nx σ H')
      (ts := fun a cls d => tRet (tByErr C f a cls d (tVar 1)))
      rfl rfl hnd hN1 hn ⟨hgl, hde, .inl (hme ▸ T.gC)⟩ LamX.takes0 (fun W pn xe tk _ => ⟨fun pins s' σ H' D I ⟨Ech, hW, e1, e2, e3⟩ => ?_⟩)
      (fun a oe cls d pn hz hf => pss_one (ps_ret (pe_byErr (X := (cxOf C8.CX0 X.prog X.w X.K X.mg X.base Ng x sg g cdg X.A X.stack s H C8.E0).nox) T ef_ hz hf (pe_var hN1 (.inl hn) hdn hcn) (hb _))))) (pss_one (ps_ret pe_str)), ?_⟩
  · exact (pss_one (ps_expr (pos := p3) (act _ pn xe Ech p1 p2 (takes_len tk) fun cls d σ' H' z l => hW cls d σ' H' l z) (hsw _))).run pins s' σ H' D I ⟨e1, e2, e3⟩
  · rw [h0]
    refine ⟨fun cls d H' => E cls d H', fun cls d σ' H' hlen hE => ?_, rfl, hc, ?_⟩
    · obtain ⟨v, dd, rfl, rfl, hd, hQ⟩ := h3 cls d H' hE
      refine ⟨true, T.te, fun _ a0 ha0 => ?_, fun z => Bool.noConfusion z⟩
      exact ⟨_, set_one hlen hN1, rfl, rfl, dd, v, rfl, hd, hQ⟩
    · exact h1
/-- try: return (w1, call()) / except X as e: return (w2, e.f) -/
def TTb (C : Addr) (f w1 w2 : Str) : (XK → Hp → VK → Prop) → Hp → VK → Prop := fun tl H Q =>
  ∃ E : XK, tl E H (fun v H' => [V.str w1, v].length ≤ sizeLine ∧ ∀ p, H' p = none → Q (.ref p) (upd H' p (.tup [.str w1, v]))) ∧ ∀ cls d H', E cls d H' → ∃ v dd, cls = .ref C ∧ d = some dd ∧ H' dd = some (.xd [(f, v)]) ∧ ∀ p, H' p = none → Q (.ref p) (upd H' p (.tup [.str w2, v]))
theorem gives_b {Ng : List Str} {x a e n q f w1 w2 : Str} {sg : Scope} {g : Addr} {cdg : Value} {j j2 k1 k2 : Nat} {p1 p2 p3 p4 p5 p6 p7 p8 p9 p10 p11 p12 p13 : Pos} (T : ErrX.Txt X.prog X.K X.mg ef C fI) (ef_ : f = ef.fld) (hge : sg.names.lookup e = some .globalImplicit) (hme : e = ef.cls)
    (hnd : Ng.Nodup) (hN1 : Ng[1]? = some n) (hn : sg.names.lookup n = some .local) (hdn : (n == ("__debug__" : Str)) = false) (hcn : (n == ("__classdict__" : Str)) = false) (h0 : ∀ f : Addr, L2.start Ng [V.ref f] = [some (V.ref f), none])
    (hb : ∀ env : Env, attributeBase (.Name n p5) f env (eval (.Name n p5) env) = eval (.Name n p5) env)
    (hs1 : ∀ env : Env, starEach [.Constant (.str w1) j p10, .Call (.Name a p1) [] [] p2] env = (false, eval (.Constant (.str w1) j p10) env) :: starEach [.Call (.Name a p1) [] [] p2] env) (hs2 : ∀ env : Env, starEach [.Call (.Name a p1) [] [] p2] env = (false, eval (.Call (.Name a p1) [] [] p2) env) :: starEach [] env)
    (hs3 : ∀ env : Env, starEach [.Constant (.str w2) j2 p11, .Attribute (.Name n p5) f p6] env = (false, eval (.Constant (.str w2) j2 p11) env) :: starEach [.Attribute (.Name n p5) f p6] env) (hs4 : ∀ env : Env, starEach [.Attribute (.Name n p5) f p6] env = (false, eval (.Attribute (.Name n p5) f p6) env) :: starEach [] env) :
    LamX.GivesTo X Ng x sg g cdg [.Try [.Return (some (.Tuple [.Constant (.str w1) j p10, .Call (.Name a p1) [] [] p2] k1 p12)) p3] [.ExceptHandler (some (.Name e p4)) (some n) [.Return (some (.Tuple [.Constant (.str w2) j2 p11, .Attribute (.Name n p5) f p6] k2 p13)) p7] p8] [] [] p9] a q (TTb C f w1 w2) := by
  intro fl c' s H Q tl act hc h
  have hgl : Gl (cxOf C8.CX0 X.prog X.w X.K X.mg X.base Ng x sg g cdg X.A X.stack s H C8.E0).nox e := hge
  have hde : (e == ("__debug__" : Str)) = false := by subst hme; cases ef <;> decide
  obtain ⟨E, h1, h3⟩ := h
  have two : (2 : Nat) ≤ sizeLine := by rw [sizeLine_eq]; omega
  refine ⟨_, pss_one (ps_try_as (X := (cxOf C8.CX0 X.prog X.w X.K X.mg X.base Ng x sg g cdg X.A X.stack s H C8.E0).nox) (c := .ref C) (i := 1)
      (tb := fun W D σ H => ∃ Ech : XK, (∀ cls d σ' H', σ'.length = Ng.length → Ech cls d H' → W cls d σ' H') ∧ σ[0]? = some (some (.ref fl)) ∧ H c' = some (CodeO c' q) ∧ tl Ech H fun v H' => [V.str w1, v].length ≤ sizeLine ∧ ∀ p, H' p = none → D.rt (.ref p) (upd H' p (.tup [.str w1, v])))
      (ts := fun a cls d => tRet (tTup (tCons (tC (.str w2)) (tCons (tByErr C f a cls d (tVar 1)) tNil))))
      rfl rfl hnd hN1 hn ⟨hgl, hde, .inl (hme ▸ T.gC)⟩ LamX.takes0 (fun W pn xe tk _ => ⟨fun pins s' σ H' D I ⟨Ech, hW, e1, e2, e3⟩ => ?_⟩)
      (fun a oe cls d pn hz hf => pss_one (ps_ret (pe_tup (pa_cons pe_str (pa_cons (pe_byErr (X := (cxOf C8.CX0 X.prog X.w X.K X.mg X.base Ng x sg g cdg X.A X.stack s H C8.E0).nox) T ef_ hz hf (pe_var hN1 (.inl hn) hdn hcn) (hb _)) pa_nil (hs4 _)) (hs3 _)))))), ?_⟩
  · refine (pss_one (ps_ret (pos := p3) (pe_tup (pa_cons pe_str (pa_cons (act _ pn xe Ech p1 p2 (takes_len tk) fun cls d σ' H' z l => hW cls d σ' H' l z) pa_nil (hs2 _)) (hs1 _))))).run pins s' σ H' D I ?_
    exact ⟨e1, e2, e3⟩
  · rw [h0]
    refine ⟨fun cls d H' => E cls d H', fun cls d σ' H' hlen hE => ?_, rfl, hc, ?_⟩
    · obtain ⟨v, dd, rfl, rfl, hd, hQ⟩ := h3 cls d H' hE
      refine ⟨true, T.te, fun _ a0 ha0 => ?_, fun z => Bool.noConfusion z⟩
      exact ⟨_, set_one hlen hN1, rfl, rfl, dd, v, rfl, hd, two, hQ⟩
    · exact h1
end

/-! ### at the level of data -/
/-- _law_refused(lambda: body): what is told if nothing is raised; the field of what is raised -/
def dLamA (C P : Addr) (q f : Str) (b : DE) : DE := fun ρ _ G Q => G P = some (.tab q) ∧ b ρ (fun C' fs G' => ∃ z, C' = C ∧ fs = [(f, z)] ∧ Q z G') G fun _ G' => Q (.str "") G'
def dLamB (C P : Addr) (q f w1 w2 : Str) (b : DE) : DE := fun ρ _ G Q => G P = some (.tab q) ∧ b ρ (fun C' fs G' => ∃ z, C' = C ∧ fs = [(f, z)] ∧ Q (.tup [.str w2, z]) G') G fun z G' => Q (.tup [.str w1, z]) G'
section
variable {K : PySem.W.Frag} {W : WX} {C P : Addr} {q f w1 w2 : Str} {b : DE}
theorem pair_one {K : PySem.W.Frag} {Z : Addr → Prop} {G : GH} {H : Hp} {f : Str} {z : D} {fv : List (Str × V)} (p : PairD K Z G H [(f, z)] fv) : ∃ v, fv = [(f, v)] ∧ DV K Z G H z v := by
  cases p with
  | cons a r =>
    rename_i q qs
    cases r
    obtain ⟨n, v⟩ := q
    obtain ⟨e, d⟩ := a
    have e : f = n := e
    subst e
    exact ⟨v, rfl, d⟩
theorem low_lamA : ∀ σ H Q, lowE K W (dLamA C P q f b) σ H Q → tLamP P q (TTa C f) (fun E => lowE K (fun c d _ H' => E c d H') b) σ H Q := fun σ H Q ⟨Z, ρ, x, G, Qd, sr, hr, ⟨hG, h⟩, c, xo⟩ => by
  obtain ⟨ps, hP, ht, ha⟩ := hr.at_ P _ hG
  refine ⟨ps, hP, ht, fun pos cv hc => let ⟨c, e1, e2, _⟩ := ha pos cv hc; ⟨c, e1, e2⟩, fun c' H1 gr => ?_⟩
  have f1 := grown_fr (G := G) gr hP (by rw [hG]; exact fun z => nomatch z)
  refine ⟨fun cls d H' => ∃ v dd, cls = .ref C ∧ d = some dd ∧ H' dd = some (.xd [(f, v)]) ∧ Q v H', ⟨Z, ρ, _, G, _, sr.mono f1, grown_hr gr hr hP hG, h, fun z v G' H' f2 r2 d2 q2 => c _ _ G' H' (f1.trans f2) r2 (.str _) q2, ?_⟩, fun cls d H' h => h⟩
  intro C' fs d fv G' H' f2 r2 e n p ⟨z, eC, ef, q⟩
  subst eC ef
  obtain ⟨v, rfl, dv⟩ := pair_one p
  exact ⟨v, d, rfl, rfl, e, c _ _ G' H' (f1.trans f2) r2 dv q⟩
theorem low_lamB : ∀ σ H Q, lowE K W (dLamB C P q f w1 w2 b) σ H Q → tLamP P q (TTb C f w1 w2) (fun E => lowE K (fun c d _ H' => E c d H') b) σ H Q := fun σ H Q ⟨Z, ρ, x, G, Qd, sr, hr, ⟨hG, h⟩, c, xo⟩ => by
  obtain ⟨ps, hP, ht, ha⟩ := hr.at_ P _ hG
  refine ⟨ps, hP, ht, fun pos cv hc => let ⟨c, e1, e2, _⟩ := ha pos cv hc; ⟨c, e1, e2⟩, fun c' H1 gr => ?_⟩
  have f1 := grown_fr (G := G) gr hP (by rw [hG]; exact fun z => nomatch z)
  have two : ∀ a b : V, [a, b].length ≤ sizeLine := fun a b => by show 2 ≤ sizeLine; rw [sizeLine_eq]; omega
  refine ⟨fun cls d H' => ∃ v dd, cls = .ref C ∧ d = some dd ∧ H' dd = some (.xd [(f, v)]) ∧ ∀ p, H' p = none → Q (.ref p) (upd H' p (.tup [.str w2, v])), ⟨Z, ρ, _, G, _, sr.mono f1, grown_hr gr hr hP hG, h, fun z v G' H' f2 r2 d2 q2 => ⟨two _ _, fun p hp => ?_⟩, ?_⟩, fun cls d H' h => h⟩
  · exact Ret.tup (Ret.mono (f1.trans f2) c) r2 hp (.cons (.str _) (.cons d2 .nil)) (two _ _) q2
  · intro C' fs d fv G' H' f2 r2 e n p ⟨z, eC, ef, q⟩
    subst eC ef
    obtain ⟨v, rfl, dv⟩ := pair_one p
    exact ⟨v, d, rfl, rfl, e, fun p hp => Ret.tup (Ret.mono (f1.trans f2) c) r2 hp (.cons (.str _) (.cons dv .nil)) (two _ _) q⟩
end
section
variable {X : Cx} {W : WX}
theorem pd_lam {TT : (XK → Hp → VK → Prop) → Hp → VK → Prop} {b d : DE} {x a : Str} {g c P : Addr} {k : Nat} {pg : Arguments} {bg : List Stmt} {sg : Scope} {dV kV doc pm cdv ct oc : Value} {an od : Option Addr} {osl : Array (Option Value)} {Ng : List Str}
    {params : Arguments} {body : Expr} {scope : Scope} {p lpos pos : Pos} (hl : ∀ σ H Q, lowE X.K W d σ H Q → tLamP P (X.env.qual ++ "<lambda>") TT (fun E => lowE X.K (fun c d _ H' => E c d H') b) σ H Q) (hg : Gl X x) (hm : X.mg x = some (.ref g)) (hk : PySem.W.keepIn X.K (.ref g) = true)
    (lk : X.K.lookup g = some ⟨oc, od, .func (PySem.W.fnOf x x pg bg sg dV kV doc pm an cdv ct), osl⟩) (hcg : PySem.W.codeIn X.K cdv x = true) (hb : L2.Binds X.K (PySem.W.fnOf x x pg bg sg dV kV doc pm an cdv ct) [a] []) (Sg : FnScope Ng [a] sg) (hNg : Ng[0]? = some a) (hva : Vis sg a)
    (hG : LamX.GivesTo X Ng x sg g cdv bg a (X.env.qual ++ "<lambda>") TT)
    (TB : TabB X.base X.mg c P) (hcode : X.env.code = .ref c) (hr : Room (k + 2) X.A) (L : LamS X.env.scope scope) (hdef : defaultsOf params X.env = ([], []))
    (hbind : ∀ (q : Str) (cl : List (Str × Addr)) (pm cv ctv : Value), bindArgs (PySem.W.kla_fn "<lambda>" q params body scope cl pm cv ctv) ⟨[], []⟩ = pure [])
    (hbody : ∀ (A : Around) (outer : List Env) (s : Shared) (H : Hp) (E : XK) (f c' : Addr), Room k (A.deeper (lamEnv X scope s.heap.objs.size f c')) → Takes (lamCx X A outer s H E scope f c') (fun c d _ H' => E c d H') → PD (lamCx X A outer s H E scope f c') (fun c d _ H' => E c d H') body b)
    (hdb : (x == ("__debug__" : Str)) = false) (hd : (a == ("__debug__" : Str)) = false) (hcd : (a == ("__classdict__" : Str)) = false) :
    PD X W (.Call (.Name x p) [.Lambda params body scope lpos] [] pos) d :=
  PE.imp (pe_lamP hg hm hk lk hcg hb Sg hNg hva hG TB hcode hr L hdef hbind (fun A outer s H E f c' hr' => hbody A outer s H E f c' hr' (takes_of rfl rfl rfl rfl)) hdb hd hcd) hl
end
end TD
/-! # TD, 10: min and max of data, item assignment, append, dicts, keywords, is True, unary minus -/
namespace TD
open PySem PySem.Spec PyProof.Rows L2

/-! ### min and max of nested data -/
def dltP (a b : D) : Bool := PySem.W.dataLt (toP a) (toP b)
def minF (x : D) (xs : List D) : D := xs.foldl (fun a y => if dltP y a then y else a) x
def maxF (x : D) (xs : List D) : D := xs.foldl (fun a y => if dltP a y then y else a) x
section
open PySem.W
variable {prog : Program} {w : World} {A : Around} {E : Value → Shared → Prop} {s : Shared}
theorem min_idx {l : Addr} {vs : Array Value} {x : PyData} {xs : List PyData} {as : List Addr} {Q : Value → Shared → Prop} (hh : A.handled = none) (hl : s.heap.IsList l vs) (hr : ReadsAll s.heap vs.toList (x :: xs) as) (ha : AlikeAll (x :: xs)) (hu : A.units + 1 + PyData.depthAll (x :: xs) < cLine)
    (h : ∀ v h' tk, vs[argBest (fun i j => dataLt ((x :: xs).getD i .none) ((x :: xs).getD j .none)) xs.length]? = some v → (∀ b o, s.heap.get? b = some o → h'.get? b = some o) → Q v { s with heap := h', toks := tk }) :
    wpAny (model prog w) A (call (.builtin "min") [.ref l]) Q E s := by
  have hn : vs.size = xs.length + 1 := readsAll_len hr
  refine call_min_walkH (iter_listW (A := A.in1) hh hl fun s₂ e W st hfp hw hk => ⟨_, _, _, _, _, _, _, s.heap, _, rfl, W, st, hfp, by omega, hw, hk, cmpIn_lt (A := A.in1) hr ha (by show A.units + 1 + _ < _; exact hu), fun v s' hP m => ?_⟩)
  obtain ⟨h', tk, rfl, hk'⟩ := moved_old e rfl m
  have e1 : vs.size - 1 = xs.length := by omega
  rw [e1] at hP
  exact h v h' tk hP hk'
theorem max_idx {l : Addr} {vs : Array Value} {x : PyData} {xs : List PyData} {as : List Addr} {Q : Value → Shared → Prop} (hh : A.handled = none) (hl : s.heap.IsList l vs) (hr : ReadsAll s.heap vs.toList (x :: xs) as) (ha : AlikeAll (x :: xs)) (hu : A.units + 1 + PyData.depthAll (x :: xs) < cLine)
    (h : ∀ v h' tk, vs[argBest (fun i j => dataLt ((x :: xs).getD j .none) ((x :: xs).getD i .none)) xs.length]? = some v → (∀ b o, s.heap.get? b = some o → h'.get? b = some o) → Q v { s with heap := h', toks := tk }) :
    wpAny (model prog w) A (call (.builtin "max") [.ref l]) Q E s := by
  have hn : vs.size = xs.length + 1 := readsAll_len hr
  refine call_max_walkH (iter_listW (A := A.in1) hh hl fun s₂ e W st hfp hw hk => ⟨_, _, _, _, _, _, _, s.heap, _, rfl, W, st, hfp, by omega, hw, hk, cmpIn_gt (A := A.in1) hr ha (by show A.units + 1 + _ < _; exact hu), fun v s' hP m => ?_⟩)
  obtain ⟨h', tk, rfl, hk'⟩ := moved_old e rfl m
  have e1 : vs.size - 1 = xs.length := by omega
  rw [e1] at hP
  exact h v h' tk hP hk'
end
theorem getD_toP (l : List D) (i : Nat) : (l.map toP).getD i .none = toP (l.getD i .non) := by
  rw [List.getD_eq_getElem?_getD, List.getD_eq_getElem?_getD, List.getElem?_map]
  cases l[i]? with
  | none => unfold toP; rfl
  | some d => rfl
theorem vals_getR : ∀ {xs : List V} {us : List Value} {i : Nat} {u : Value}, Vals xs us → us[i]? = some u → ∃ x, xs[i]? = some x ∧ RelV x u
  | _, _, _, _, .nil, e => by simp at e
  | _, _, 0, _, .cons r _, e => by simp at e; subst e; exact ⟨_, rfl, r⟩
  | _, _, i + 1, u, .cons _ t, e => by
    obtain ⟨x, h1, h2⟩ := vals_getR (i := i) (u := u) t (by simpa using e)
    exact ⟨x, by simpa using h1, h2⟩
/-- the least of a list, by the places of its items -/
def rMinP (K : PySem.W.Frag) (isMax : Bool) : List V → Hp → VK → Prop := fun vs H Q => ∃ (a : Addr) (ws : List V) (x : PyData) (xs : List PyData), vs = [.ref a] ∧ SqL K H a ws ∧ DpAll K H ws (x :: xs) ∧ PySem.W.AlikeAll (x :: xs) ∧ PyData.depthAll (x :: xs) ≤ 60 ∧
  ∀ v, ws[argBest (fun i j => if isMax = true then PySem.W.dataLt ((x :: xs).getD j .none) ((x :: xs).getD i .none) else PySem.W.dataLt ((x :: xs).getD i .none) ((x :: xs).getD j .none)) xs.length]? = some v → Q v H
section
variable {X : Cx}
theorem cr_minP (hc : X.calm = true) (hu : X.A.units + 64 < cLine) : CallR X (.builtin "min") (rMinP X.K false) := by
  intro pins s σ H vs us Q I r h
  obtain ⟨a, ws, x, xs, rfl, hs, hd, ha, hz, q⟩ := h
  obtain ⟨its, rv, hl, _⟩ := I.list hs
  rw [Vals.ref1 r]
  obtain ⟨as, hr⟩ := Dp.readsAll I _ _ _ hd rv
  refine min_idx (I.ok.hd hc) hl.isList hr ha (by omega) fun v h' tk hv hk => ?_
  rw [List.getElem?_toArray] at hv
  obtain ⟨y, hy, ry⟩ := vals_getR rv hv
  exact ⟨y, H, I.kept hk, ry, q y hy⟩
theorem cr_maxP (hc : X.calm = true) (hu : X.A.units + 64 < cLine) : CallR X (.builtin "max") (rMinP X.K true) := by
  intro pins s σ H vs us Q I r h
  obtain ⟨a, ws, x, xs, rfl, hs, hd, ha, hz, q⟩ := h
  obtain ⟨its, rv, hl, _⟩ := I.list hs
  rw [Vals.ref1 r]
  obtain ⟨as, hr⟩ := Dp.readsAll I _ _ _ hd rv
  refine max_idx (I.ok.hd hc) hl.isList hr ha (by omega) fun v h' tk hv hk => ?_
  rw [List.getElem?_toArray] at hv
  obtain ⟨y, hy, ry⟩ := vals_getR rv hv
  exact ⟨y, H, I.kept hk, ry, q y hy⟩
end
def rdMinD : RDC := fun zs G Q => ∃ x xs n, zs = [.lst (x :: xs)] ∧ n ≤ 60 ∧ (∀ y ∈ x :: xs, pureN n y = true) ∧ PySem.W.AlikeAll ((x :: xs).map toP) ∧ Q (minF x xs) G
def rdMaxD : RDC := fun zs G Q => ∃ x xs n, zs = [.lst (x :: xs)] ∧ n ≤ 60 ∧ (∀ y ∈ x :: xs, pureN n y = true) ∧ PySem.W.AlikeAll ((x :: xs).map toP) ∧ Q (maxF x xs) G
theorem cll_minD {K : PySem.W.Frag} : CallL K (rMinP K false) rdMinD := by
  rintro Z zs vs G H Qd Q hr ds ⟨x, xs, n, rfl, hn, hp, ha, q⟩ c
  obtain ⟨v, rfl, d⟩ := ds.one
  cases d with
  | lst n1 g1 h1 z1 r1 =>
    rename_i a ws
    refine ⟨a, ws, toP x, xs.map toP, rfl, SqL.of h1, r1.dp n hp, ha, depthAll_le (n := 60) (fun y hy => ?_), fun v hv => ?_⟩
    · rw [← List.map_cons] at hy
      obtain ⟨e, he, rfl⟩ := List.mem_map.mp hy
      exact Nat.le_trans (pureN_ok n e (hp e he)).2 hn
    · have e := (PySem.W.argBest_fold dltP D.non x xs xs.length (Nat.le_refl _))
      rw [List.length_map] at hv
      have eq : (fun i j => if (false : Bool) = true then PySem.W.dataLt ((toP x :: xs.map toP).getD j .none) ((toP x :: xs.map toP).getD i .none) else PySem.W.dataLt ((toP x :: xs.map toP).getD i .none) ((toP x :: xs.map toP).getD j .none)) = fun i j => dltP ((x :: xs).getD i .non) ((x :: xs).getD j .non) := by
        funext i j
        rw [if_neg Bool.false_ne_true, ← List.map_cons, getD_toP, getD_toP] <;> rfl
      rw [eq] at hv
      obtain ⟨d, hd, rd⟩ := r1.getV hv
      have e2 := e.2
      rw [List.getD_eq_getElem?_getD, hd, List.take_length] at e2
      have e3 : d = minF x xs := e2
      rw [e3] at rd
      exact Ret.here c hr rd q
theorem cll_maxD {K : PySem.W.Frag} : CallL K (rMinP K true) rdMaxD := by
  rintro Z zs vs G H Qd Q hr ds ⟨x, xs, n, rfl, hn, hp, ha, q⟩ c
  obtain ⟨v, rfl, d⟩ := ds.one
  cases d with
  | lst n1 g1 h1 z1 r1 =>
    rename_i a ws
    refine ⟨a, ws, toP x, xs.map toP, rfl, SqL.of h1, r1.dp n hp, ha, depthAll_le (n := 60) (fun y hy => ?_), fun v hv => ?_⟩
    · rw [← List.map_cons] at hy
      obtain ⟨e, he, rfl⟩ := List.mem_map.mp hy
      exact Nat.le_trans (pureN_ok n e (hp e he)).2 hn
    · have e := (PySem.W.argBest_fold (fun a b => dltP b a) D.non x xs xs.length (Nat.le_refl _))
      rw [List.length_map] at hv
      have eq : (fun i j => if (true : Bool) = true then PySem.W.dataLt ((toP x :: xs.map toP).getD j .none) ((toP x :: xs.map toP).getD i .none) else PySem.W.dataLt ((toP x :: xs.map toP).getD i .none) ((toP x :: xs.map toP).getD j .none)) = fun i j => dltP ((x :: xs).getD j .non) ((x :: xs).getD i .non) := by
        funext i j
        rw [if_pos rfl, ← List.map_cons, getD_toP, getD_toP] <;> rfl
      rw [eq] at hv
      obtain ⟨d, hd, rd⟩ := r1.getV hv
      have e2 := e.2
      rw [List.getD_eq_getElem?_getD, hd, List.take_length] at e2
      have e3 : d = maxF x xs := e2
      rw [e3] at rd
      exact Ret.here c hr rd q
end TD
/-! # TD, 11: item assignment, append, pop, dicts -/
namespace TD
open PySem PySem.Spec PyProof.Rows L2

/-! ### lists at an address -/
/-- o[i] = e of a told list -/
def dSetL (a o i : DE) : DS := fun D ρ G => a ρ (D.xx ρ) G fun z G1 => o ρ (D.xx ρ) G1 fun l G2 => i ρ (D.xx ρ) G2 fun k G3 => ∃ p xs n j, l = .ref p ∧ k = .int n ∧ G3 p = some (.lst xs) ∧ ixN xs.length n = some j ∧ D.nx ρ (gup G3 p (.lst (xs.set j z)))
section
variable {X : Cx} {W : WX} {e o i : Expr} {a da do_ di : DE} {pos p' : Pos}
theorem pds_setL (ha : PD X W e da) (ho : PD X W o do_) (hi : PD X W i di)
    (hs : swapsWithSole [.Subscript o i p'] e pos.line X.env = pure false := by rfl) (hw : swappedStores [.Subscript o i p'] e X.env = pure none := by rfl) (h1 : (assignEach [.Subscript o i p'] X.env).map (·.2) = [assign (.Subscript o i p') X.env] := by rfl)
    (hg : ∀ v, assign (.Subscript o i p') X.env v = (do
      let ov ← holding [v] (eval o X.env)
      let iv ← holding [v, ov] (eval i X.env)
      standAt p'
      holding [v, ov, iv] (setItem ov iv v)
      release [v, ov, iv] []) := by intro _; rfl) : PDS X W (.Assign [.Subscript o i p'] e pos) (dSetL da do_ di) :=
  PS.imp (ps_asg ha (pg_sub ho hi set_list hg) hs hw h1) fun E σ H ⟨Z, ρ, G, Dd, sr, hr, h, ok⟩ => ⟨Z, ρ, Dd.xx ρ, G, _, sr, hr, h, fun z v G1 H1 f1 r1 d1 q1 =>
    ⟨Z, ρ, Dd.xx ρ, G1, _, sr.mono f1, r1, q1, fun l lv G2 H2 f2 r2 d2 q2 => ⟨Z, ρ, Dd.xx ρ, G2, _, sr.mono (f1.trans f2), r2, q2, fun k kv G3 H3 f3 r3 d3 ⟨p, xs, n, j, el, ek, g, hj, q⟩ => by
      subst el ek
      cases d2
      cases d3
      obtain ⟨vs, hp, rv, hz⟩ := r3.at_ _ _ g
      refine ⟨p, vs, n, j, rfl, rfl, hp, by rw [← rv.length]; exact hj, ?_⟩
      have f4 : Fr G3 H3 (gup G3 p (.lst (xs.set j z))) (upd H3 p (.lst (vs.set j v))) := Fr.put g
      have r4 : HR X.K Z (gup G3 p (.lst (xs.set j z))) (upd H3 p (.lst (vs.set j v))) := r3.put g ⟨_, upd_same, (rv.mono f4).set (d1.mono (f2.trans (f3.trans f4))) j, by rw [List.length_set]; exact hz⟩
      exact ok.nx ρ σ _ _ (f1.trans (f2.trans (f3.trans f4))) r4 (sr.mono (f1.trans (f2.trans (f3.trans f4)))) q, (ok.xo sr).mono (f1.trans f2)⟩, (ok.xo sr).mono f1⟩, ok.xo sr⟩
end
/-- methods of told lists -/
abbrev RDM := D → List D → GH → DK → Prop
def MthL (K : PySem.W.Frag) (T : String) (r : V → List V → Hp → VK → Prop) (rd : RDM) : Prop :=
  ∀ Z z zs v vs G H Qd Q, HR K Z G H → DV K Z G H z v → DVs K Z G H zs vs → rd z zs G Qd → Ret K Z G H Qd Q → r v vs H Q
def dMth (rd : RDM) (o : DE) (t : DA) : DE := fun ρ x G Q => o ρ x G fun z G1 => t ρ x G1 fun zs G2 => rd z zs G2 Q
/-- the receiver is of the type T -/
def tyM (T : String) (z : D) (G : GH) : Prop := match z with
  | .str _ => T = "str"
  | .lst _ => T = "list"
  | .scr _ => T = "list"
  | .dic => T = "dict"
  | .ref a => (T = "list" ∧ ∃ xs, G a = some (.lst xs)) ∨ (T = "dict" ∧ ((∃ kvs, G a = some (.dK kvs)) ∨ ∃ kvs, G a = some (.dT kvs)))
  | _ => False
theorem tyM_V {K : PySem.W.Frag} {Z : Addr → Prop} {G : GH} {H : Hp} {T : String} {z : D} {v : V} (hr : HR K Z G H) (d : DV K Z G H z v) (h : tyM T z G) : tyV K T v H := by
  unfold tyM at h
  split at h
  · cases d; exact h
  · cases d with
    | lst n1 g1 h1 z1 r1 => exact .inl ⟨h, _, SqL.of h1⟩
  · cases d with
    | scr h1 z1 => exact .inl ⟨h, _, h1.seq⟩
  · cases d with
    | dic n1 g1 h1 => exact .inr (.inr (.inl ⟨h, h1⟩))
  · cases d
    rcases h with ⟨h, xs, g⟩ | ⟨h, ⟨kvs, g⟩ | ⟨kvs, g⟩⟩
    · obtain ⟨vs, h1, _⟩ := hr.at_ _ _ g
      exact .inl ⟨h, _, SqL.of h1⟩
    · obtain ⟨vs, h1, _⟩ := hr.at_ _ _ g
      exact .inr (.inr (.inl ⟨h, .inl ⟨vs, h1⟩⟩))
    · obtain ⟨vs, h1, _⟩ := hr.at_ _ _ g
      exact .inr (.inr (.inl ⟨h, .inr ⟨vs, h1⟩⟩))
  · exact h.elim
def dMthT (T : String) (rd : RDM) (o : DE) (t : DA) : DE := fun ρ x G Q => o ρ x G fun z G1 => tyM T z G1 ∧ t ρ x G1 fun zs G2 => rd z zs G2 Q
section
variable {X : Cx} {W : WX} {e o : Expr} {es : List Expr} {do_ : DE} {t : DA} {name : Str} {apos cpos : Pos} {T id : String} {r : V → List V → Hp → VK → Prop} {rd : RDM}
theorem low_mth {K : PySem.W.Frag} (hl : MthL K T r rd) : ∀ σ H Q, lowE K W (dMthT T rd do_ t) σ H Q → tBM K T r (lowE K W do_) (lowA K W t) σ H Q := fun σ H Q ⟨Z, ρ, x, G, Qd, sr, hr, h, c, xo⟩ =>
  ⟨Z, ρ, x, G, _, sr, hr, h, fun z v G1 H1 f1 r1 d1 ⟨ty, q1⟩ => ⟨tyM_V r1 d1 ty, Z, ρ, x, G1, _, sr.mono f1, r1, q1, fun zs vs G2 H2 f2 r2 d2 q2 => hl Z z zs v vs G2 H2 Qd Q r2 (d1.mono f2) d2 q2 (Ret.mono (f1.trans f2) c), xo.mono f1⟩, xo⟩
theorem pd_mth (pa : PlainAttrs T) (slot : Slot T name id) (hty : typeOf (.builtin id) = pure (.type "method_descriptor")) (hm : MtR X id r) (hl : MthL X.K T r rd) (ho : PD X W o do_) (ha : PDA X W (e :: es) t)
    (hbase : attributeBase o name X.env (eval o X.env) = eval o X.env := by rfl)
    (hfew : ((backTo cpos (starEach (e :: es) X.env)).all (fun x => !x.1) && (backToKw cpos (keywordEach [] X.env)).all (fun x => x.1.isSome)
      && decide ((e :: es).length + ([] : List Keyword).length + (if ([] : List Keyword).isEmpty then 0 else 1) < 30)) = true := by rfl)
    (hline : (apos.endLine == cpos.line) = true := by rfl) (hs : starEach (e :: es) X.env = (false, eval e X.env) :: starEach es X.env := by rfl) (hplain : (backTo cpos (starEach es X.env)).any (·.1) = false := by rfl) :
    PD X W (.Call (.Attribute o name apos) (e :: es) [] cpos) (dMthT T rd do_ t) := PE.imp (pe_bm pa slot hty hm ho ha hbase hfew hline hs hplain) (low_mth hl)
def dMth0 (T : String) (rd : RDM) (o : DE) : DE := fun ρ x G Q => o ρ x G fun z G1 => tyM T z G1 ∧ rd z [] G1 Q
theorem pd_mth0 (pa : PlainAttrs T) (slot : Slot T name id) (hty : typeOf (.builtin id) = pure (.type "method_descriptor")) (hm : MtR X id r) (hl : MthL X.K T r rd) (ho : PD X W o do_)
    (hbase : attributeBase o name X.env (eval o X.env) = eval o X.env := by rfl) (hline : (apos.endLine == cpos.line) = true := by rfl) :
    PD X W (.Call (.Attribute o name apos) [] [] cpos) (dMth0 T rd do_) := PE.imp (pe_bm0 pa slot hty hm ho hbase hline) fun σ H Q ⟨Z, ρ, x, G, Qd, sr, hr, h, c, xo⟩ =>
  ⟨Z, ρ, x, G, _, sr, hr, h, fun z v G1 H1 f1 r1 d1 ⟨ty, q1⟩ => ⟨tyM_V r1 d1 ty, hl Z z [] v [] G1 H1 Qd Q r1 d1 .nil q1 (Ret.mono f1 c)⟩, xo⟩
end
def rdAppend : RDM := fun z zs G Q => ∃ a xs y, z = .ref a ∧ zs = [y] ∧ G a = some (.lst xs) ∧ xs.length < sizeLine ∧ Q .non (gup G a (.lst (xs ++ [y])))
theorem mth_append {K : PySem.W.Frag} : MthL K "list" rAppend rdAppend := by
  rintro Z z zs v vs G H Qd Q hr dz ds ⟨a, xs, y, rfl, rfl, g, hz, q⟩ c
  cases dz
  obtain ⟨u, rfl, du⟩ := ds.one
  obtain ⟨ws, h1, r1, z1⟩ := hr.at_ _ _ g
  have l1 := r1.length
  refine ⟨a, ws, u, rfl, rfl, h1, by omega, ?_⟩
  have f : Fr G H (gup G a (.lst (xs ++ [y]))) (upd H a (.lst (ws ++ [u]))) := Fr.put g
  exact c .non .non _ _ f (hr.put g ⟨_, upd_same, (r1.mono f).append (.cons (du.mono f) .nil), by rw [List.length_append, List.length_singleton]; omega⟩) .non q
def rdPop : RDM := fun z zs G Q => ∃ a xs y, z = .ref a ∧ zs = [] ∧ G a = some (.lst xs) ∧ xs[xs.length - 1]? = some y ∧ Q y (gup G a (.lst xs.dropLast))
theorem DVs.dropLast {K : PySem.W.Frag} {Z : Addr → Prop} {G : GH} {H : Hp} : ∀ {ds : List D} {vs : List V}, DVs K Z G H ds vs → DVs K Z G H ds.dropLast vs.dropLast := fun {ds vs} h => by
  rw [List.dropLast_eq_take, List.dropLast_eq_take, h.length]
  exact h.take _
theorem mth_pop {K : PySem.W.Frag} : MthL K "list" rPop rdPop := by
  rintro Z z zs v vs G H Qd Q hr dz ds ⟨a, xs, y, rfl, rfl, g, hy, q⟩ c
  cases dz
  cases ds
  obtain ⟨ws, h1, r1, z1⟩ := hr.at_ _ _ g
  obtain ⟨u, hu, du⟩ := r1.get hy
  refine ⟨a, ws, u, rfl, rfl, h1, by rw [← r1.length]; exact hu, ?_⟩
  have f : Fr G H (gup G a (.lst xs.dropLast)) (upd H a (.lst ws.dropLast)) := Fr.put g
  exact c y u _ _ f (hr.put g ⟨_, upd_same, (r1.mono f).dropLast, by rw [List.length_dropLast]; omega⟩) (du.mono f) q

/-! ### dicts at an address -/
def kD : Key → D
  | .inl i => .int i
  | .inr x => .str x
theorem kD_V {K : PySem.W.Frag} {Z : Addr → Prop} {G : GH} {H : Hp} {k : Key} {v : V} (d : DV K Z G H (kD k) v) : v = kV k := by
  cases k <;> (cases d; rfl)
theorem kD_D {K : PySem.W.Frag} {Z : Addr → Prop} {G : GH} {H : Hp} (k : Key) : DV K Z G H (kD k) (kV k) := by
  cases k
  · exact .int _
  · exact .str _
section
variable {κ : Type} [DecidableEq κ]
def valD (kvs : List (κ × D)) (k : κ) : Option D := (kvs.find? fun kv => decide (kv.1 = k)).map (·.2)
def putD (kvs : List (κ × D)) (k : κ) (d : D) : List (κ × D) := if (kvs.any fun kv => decide (kv.1 = k)) = true then kvs.map (fun kv => if kv.1 = k then (kv.1, d) else kv) else kvs ++ [(k, d)]
variable {K : PySem.W.Frag} {Z : Addr → Prop} {G : GH} {H : Hp}
theorem PairD.length : ∀ {l : List (κ × D)} {m : List (κ × V)}, PairD K Z G H l m → l.length = m.length
  | _, _, .nil => rfl
  | _, _, .cons _ b => by rw [List.length_cons, List.length_cons, PairD.length b]
theorem PairD.val {k : κ} {d : D} : ∀ {l : List (κ × D)} {m : List (κ × V)}, PairD K Z G H l m → valD l k = some d → ∃ v, valV m k = some v ∧ DV K Z G H d v
  | _, _, .nil, h => by simp [valD] at h
  | p :: l, q :: m, .cons a b, h => by
    by_cases e : p.1 = k
    · rw [valV_pos (a.1.symm.trans e)]
      simp only [valD, List.find?_cons, e, decide_true, Option.map_some, Option.some.injEq] at h
      exact ⟨_, rfl, h ▸ a.2⟩
    · rw [valV_neg (fun z => e (a.1.trans z))]
      refine PairD.val b ?_
      simpa [valD, List.find?_cons, e] using h
theorem PairD.noval {k : κ} : ∀ {l : List (κ × D)} {m : List (κ × V)}, PairD K Z G H l m → valD l k = none → valV m k = none
  | _, _, .nil, h => rfl
  | p :: l, q :: m, .cons a b, h => by
    by_cases e : p.1 = k
    · simp [valD, List.find?_cons, e] at h
    · rw [valV_neg (fun z => e (a.1.trans z))]
      refine PairD.noval b ?_
      simpa [valD, List.find?_cons, e] using h
theorem PairD.any {k : κ} : ∀ {l : List (κ × D)} {m : List (κ × V)}, PairD K Z G H l m → (l.any fun kv => decide (kv.1 = k)) = (m.any fun kv => decide (kv.1 = k))
  | _, _, .nil => rfl
  | _, _, .cons a b => by rw [List.any_cons, List.any_cons, PairD.any b, a.1]
theorem PairD.map {k : κ} {d : D} {v : V} (r : DV K Z G H d v) : ∀ {l : List (κ × D)} {m : List (κ × V)}, PairD K Z G H l m → PairD K Z G H (l.map fun kv => if kv.1 = k then (kv.1, d) else kv) (m.map fun kv => if kv.1 = k then (kv.1, v) else kv)
  | _, _, .nil => .nil
  | p :: l, q :: m, .cons a b => by
    rw [List.map_cons, List.map_cons]
    refine .cons ?_ (PairD.map r b)
    by_cases e : p.1 = k
    · rw [if_pos e, if_pos (a.1.symm.trans e)]; exact ⟨a.1, r⟩
    · rw [if_neg e, if_neg (fun z => e (a.1.trans z))]; exact a
theorem PairD.snoc {k : κ} {d : D} {v : V} (r : DV K Z G H d v) : ∀ {l : List (κ × D)} {m : List (κ × V)}, PairD K Z G H l m → PairD K Z G H (l ++ [(k, d)]) (m ++ [(k, v)])
  | _, _, .nil => .cons ⟨rfl, r⟩ .nil
  | _, _, .cons a b => .cons a (PairD.snoc r b)
theorem PairD.put {k : κ} {d : D} {v : V} (r : DV K Z G H d v) {l : List (κ × D)} {m : List (κ × V)} (h : PairD K Z G H l m) : PairD K Z G H (putD l k d) (putK m k v) := by
  unfold putD putK
  rw [h.any]
  split
  · exact h.map r
  · exact h.snoc r
end
/-- a dict at a, locked or not -/
def DAt (G : GH) (a : Addr) (kvs : List (Key × D)) : Prop := G a = some (.dK kvs) ∨ ∃ o ks, G a = some (.fK o ks kvs)
theorem DAt.rd {K : PySem.W.Frag} {Z : Addr → Prop} {G : GH} {H : Hp} {a : Addr} {kvs : List (Key × D)} (h : DAt G a kvs) (hr : HR K Z G H) : ∃ ks, Rd H a (.dK ks) ∧ PairD K Z G H kvs ks := by
  rcases h with h | ⟨o, ks, h⟩
  · obtain ⟨ks, h1, r1⟩ := hr.at_ _ _ h
    exact ⟨ks, .inl h1, r1⟩
  · obtain ⟨h1, r1⟩ := hr.at_ _ _ h
    exact ⟨ks, .inr ⟨o, h1⟩, r1⟩
/-- d[k] -/
def rdDIx : RD2 := fun z y G Q => ∃ a k d, z = .ref a ∧ y = kD k ∧ (∃ kvs, DAt G a kvs ∧ valD kvs k = some d) ∧ Q d G
def rDIx : R2 := fun x y H Q => ∃ a v, x = .ref a ∧ DGet H a y (some v) ∧ Q v H
theorem ix_dict {X : Cx} (hu : X.A.units + 64 < cLine) : IxR X rDIx := by
  intro value slice pins s σ H x y v u Q I rx ry h hs
  obtain ⟨a, r, rfl, g, q⟩ := h
  obtain rfl : v = Value.ref a := rx
  exact tail_any (dict_typeIs I g) PySem.F.slot_dict_getitem.lookup (d_getItem (by omega) I g ry fun w' s' I' rw' => ⟨r, H, I', rw', q⟩) hs
theorem opl_dix {K : PySem.W.Frag} : OpL K rDIx rdDIx := by
  rintro Z z y vz vy G H Qd Q hr dz dy ⟨a, k, d, rfl, rfl, ⟨kvs, g, e⟩, q⟩ c
  cases dz
  obtain ⟨ks, h1, r1⟩ := g.rd hr
  obtain ⟨v, h2, r2⟩ := r1.val e
  obtain rfl := kD_V dy
  exact ⟨a, v, rfl, .inl ⟨ks, k, h1, rfl, h2.symm⟩, Ret.here c hr r2 q⟩
/-- k in d, k not in d -/
def rdDIn (pos : Bool) : RD2 := fun y z G Q => ∃ a k kvs, z = .ref a ∧ y = kD k ∧ DAt G a kvs ∧ Q (.bl ((valD kvs k).isSome == pos)) G
section
variable {X : Cx} {W : WX} {a b e o i : Expr} {da db do_ di : DE} {pos p' : Pos}
theorem pd_dix (hu : X.A.units + 64 < cLine) (ha : PD X W a da) (hb : PD X W b db) (hs : PlainIx b := by exact fun _ _ => rfl) : PD X W (.Subscript a b pos) (dOp rdDIx da db) := PE.imp (pe_ix (ix_dict hu) ha hb hs) (low_op opl_dix)
/-- d[k] = e -/
def dSetD (a o i : DE) : DS := fun D ρ G => a ρ (D.xx ρ) G fun z G1 => o ρ (D.xx ρ) G1 fun l G2 => i ρ (D.xx ρ) G2 fun y G3 => ∃ p kvs k, l = .ref p ∧ y = kD k ∧ G3 p = some (.dK kvs) ∧ kvs.length < sizeLine ∧ D.nx ρ (gup G3 p (.dK (putD kvs k z)))
theorem pds_setD (hu : X.A.units + 64 < cLine) (ha : PD X W e da) (ho : PD X W o do_) (hi : PD X W i di)
    (hs : swapsWithSole [.Subscript o i p'] e pos.line X.env = pure false := by rfl) (hw : swappedStores [.Subscript o i p'] e X.env = pure none := by rfl) (h1 : (assignEach [.Subscript o i p'] X.env).map (·.2) = [assign (.Subscript o i p') X.env] := by rfl)
    (hg : ∀ v, assign (.Subscript o i p') X.env v = (do
      let ov ← holding [v] (eval o X.env)
      let iv ← holding [v, ov] (eval i X.env)
      standAt p'
      holding [v, ov, iv] (setItem ov iv v)
      release [v, ov, iv] []) := by intro _; rfl) : PDS X W (.Assign [.Subscript o i p'] e pos) (dSetD da do_ di) :=
  PS.imp (ps_asg ha (pg_sub ho hi (set_dict (by omega)) hg) hs hw h1) fun E σ H ⟨Z, ρ, G, Dd, sr, hr, h, ok⟩ => ⟨Z, ρ, Dd.xx ρ, G, _, sr, hr, h, fun z v G1 H1 f1 r1 d1 q1 =>
    ⟨Z, ρ, Dd.xx ρ, G1, _, sr.mono f1, r1, q1, fun l lv G2 H2 f2 r2 d2 q2 => ⟨Z, ρ, Dd.xx ρ, G2, _, sr.mono (f1.trans f2), r2, q2, fun y yv G3 H3 f3 r3 d3 ⟨p, kvs, k, el, ey, g, hz, q⟩ => by
      subst el ey
      cases d2
      obtain rfl := kD_V d3
      obtain ⟨ks, hp, rk⟩ := r3.at_ _ _ g
      refine ⟨p, _, rfl, DPut.k hp (by rw [← rk.length]; exact hz), ?_⟩
      have f4 : Fr G3 H3 (gup G3 p (.dK (putD kvs k z))) (upd H3 p (.dK (putK ks k v))) := Fr.put g
      have r4 : HR X.K Z (gup G3 p (.dK (putD kvs k z))) (upd H3 p (.dK (putK ks k v))) := r3.put g ⟨_, upd_same, (rk.mono f4).put (d1.mono (f2.trans (f3.trans f4)))⟩
      exact ok.nx ρ σ _ _ (f1.trans (f2.trans (f3.trans f4))) r4 (sr.mono (f1.trans (f2.trans (f3.trans f4)))) q, (ok.xo sr).mono (f1.trans f2)⟩, (ok.xo sr).mono f1⟩, ok.xo sr⟩
/-- {} -/
def dNewD : DE := fun _ _ G Q => ∀ p, G p = none → Q (.ref p) (gup G p (.dK []))
theorem pd_newD : PD X W (.Dict [] [] pos) dNewD := PE.imp pe_dnewK fun σ H Q ⟨Z, ρ, x, G, Qd, sr, hr, h, c, xo⟩ p hp =>
  c (.ref p) _ _ _ (Fr.newT hp) (hr.newT (m := .dK []) hp ⟨[], upd_same, .nil⟩) (.ref p) (h p (hr.free hp))
/-- {k: v} -/
def dDisp1 (a b : DE) : DE := fun ρ x G Q => ∀ p, G p = none → a ρ x (gup G p (.dK [])) fun y G1 => b ρ x G1 fun z G2 => G2 p = some (.dK []) ∧ ∃ k, y = kD k ∧ Q (.ref p) (gup G2 p (.dK [(k, z)]))
theorem pd_disp1 (ha : PD X W a da) (hb : PD X W b db) : PD X W (.Dict [some a] [b] pos) (dDisp1 da db) :=
  PE.imp (pe_disp (pps_cons ha hb pps_nil) rfl rfl (by simp) (by simp)) fun σ H Q ⟨Z, ρ, x, G, Qd, sr, hr, h, c, xo⟩ p hp => by
    have f0 : Fr G H (gup G p (.dK [])) (upd H p (.dK [])) := Fr.newT hp
    refine ⟨Z, ρ, x, _, _, sr.mono f0, hr.newT (m := .dK []) hp ⟨[], upd_same, .nil⟩, h p (hr.free hp), fun y yv G1 H1 f1 r1 d1 q1 => ⟨Z, ρ, x, G1, _, sr.mono (f0.trans f1), r1, q1, fun z zv G2 H2 f2 r2 d2 ⟨g, k, ek, q⟩ => ?_, xo.mono (f0.trans f1)⟩, xo.mono f0⟩
    subst ek
    obtain rfl := kD_V d1
    obtain ⟨ks, h1, rk⟩ := r2.at_ _ _ g
    cases rk
    refine ⟨h1, [(k, zv)], rfl, by simp, ?_⟩
    have f3 : Fr G2 H2 (gup G2 p (.dK [(k, z)])) (upd H2 p (.dK [(k, zv)])) := Fr.put g
    exact c (.ref p) _ _ _ (f0.trans (f1.trans (f2.trans f3))) (r2.put g ⟨_, upd_same, .cons ⟨rfl, d2.mono f3⟩ .nil⟩) (.ref p) q
end
end TD
/-! # TD, 12: keywords, is True, unary minus, slices from behind -/
namespace TD
open PySem PySem.Spec PyProof.Rows L2

/-! ### keywords -/
def pickK (n m : Nat) (idx : List Nat) {α : Type} (us ws : List α) : List α := if us.length = n ∧ ws.length = m then us ++ idx.filterMap (fun i => ws[i]?) else []
theorem vals_pick {vs : List V} {us : List Value} (r : Vals vs us) : ∀ idx : List Nat, Vals (idx.filterMap fun i => vs[i]?) (idx.filterMap fun i => us[i]?)
  | [] => .nil
  | i :: idx => by
    have ih := vals_pick r idx
    cases e : vs[i]? with
    | some v =>
      obtain ⟨u, hu, ru⟩ := r.get e
      rw [List.filterMap_cons_some e, List.filterMap_cons_some hu]
      exact .cons ru ih
    | none =>
      have hu : us[i]? = none := by
        rw [List.getElem?_eq_none_iff] at e ⊢
        rw [← r.length]; exact e
      rw [List.filterMap_cons_none e, List.filterMap_cons_none hu]
      exact ih
theorem DVs.pick {K : PySem.W.Frag} {Z : Addr → Prop} {G : GH} {H : Hp} {ds : List D} {vs : List V} (r : DVs K Z G H ds vs) : ∀ idx : List Nat, DVs K Z G H (idx.filterMap fun i => ds[i]?) (idx.filterMap fun i => vs[i]?)
  | [] => .nil
  | i :: idx => by
    have ih := DVs.pick r idx
    cases e : ds[i]? with
    | some v =>
      obtain ⟨u, hu, ru⟩ := r.get e
      rw [List.filterMap_cons_some e, List.filterMap_cons_some hu]
      exact .cons ru ih
    | none =>
      have hu : vs[i]? = none := by
        rw [List.getElem?_eq_none_iff] at e ⊢
        rw [← r.length]; exact e
      rw [List.filterMap_cons_none e, List.filterMap_cons_none hu]
      exact ih
theorem DVs.pickK {K : PySem.W.Frag} {Z : Addr → Prop} {G : GH} {H : Hp} {ds es : List D} {vs us : List V} (r : DVs K Z G H ds vs) (r2 : DVs K Z G H es us) (n m : Nat) (idx : List Nat) : DVs K Z G H (TD.pickK n m idx ds es) (TD.pickK n m idx vs us) := by
  unfold TD.pickK
  rw [r.length, r2.length]
  split
  · exact r.append (r2.pick idx)
  · exact .nil
theorem kb_of {K : PySem.W.Frag} {x qual : Str} {st : Stmt} {f : Addr} {fd : FuncData} {ps ks : List Str} (n m : Nat) (idx : List Nat) (F : Fun K x qual st f fd) (hps : ps ≠ [])
    (h : ∀ (kV doc pm : Value) (an : Option Addr) (cdv ct : Value) (us ws : List Value), us.length = n → ws.length = m →
      bindArgs (PySem.W.fnOf x qual (defArgs st) (defBody st) (defScope st) .none kV doc pm an cdv ct) ⟨us, ks.zip ws⟩ = pure (ps.zip (us ++ idx.filterMap fun i => ws[i]?))) : KBinds K fd ps ks (pickK n m idx) (pickK n m idx) := by
  obtain ⟨oc, od, kV, doc, pm, an, cdv, ct, osl, rfl, lk, hcd⟩ := F.ex
  refine ⟨fun s us ws X hl => ?_, fun {vs us zs ws} r r2 => ?_⟩
  · unfold pickK at hl ⊢
    by_cases c : us.length = n ∧ ws.length = m
    · rw [if_pos c]
      exact .of_eq (h kV doc pm an cdv ct us ws c.1 c.2)
    · rw [if_neg c] at hl
      exact absurd (List.eq_nil_of_length_eq_zero hl.symm) hps
  · unfold pickK
    rw [r.length, r2.length]
    split
    · exact r.append (vals_pick r2 idx)
    · exact .nil
def tCallKS (sp : Sp) (gV : List V → List V → List V) (E : L2.St → XK) (t tk : TA) : TE := fun σ H Q => t σ H fun vs H1 => tk σ H1 fun zs H2 => sp (gV vs zs) H2 Q (E σ)
section
variable {X : Cx} {CX : CXT} {k : Nat} {f : Addr} {fd : FuncData} {ps ks : List Str} {sp : Sp} {E : L2.St → XK} {x : Str} {p pos : Pos} {e : Expr} {es : List Expr} {kws : List Keyword} {t tk : TA} {g : List Value → List Value → List Value} {gV : List V → List V → List V}
theorem run_fnkS {pins : List (Addr × Obj)} {σ : L2.St} {H : Hp} {s : Shared} {Q : VK} {us ws : List Value} {vs zs : List V} (F : FnOk X.prog X.w X.K X.mg X.base CX k f fd ps sp) (hr : Room k X.A) (hb : KBinds X.K fd ps ks g gV) (hx : PassesAt CX X σ (E σ))
    (I : Inv X pins σ H s) (r : Vals vs us) (rz : Vals zs ws) (h : sp (gV vs zs) H Q (E σ)) : wpAny (model X.prog X.w) X.A (call (.ref f) us (ks.zip ws)) (EP X pins σ Q) X.xe s := by
  have r2 := hb.rel r rz
  have hl : (g us ws).length = ps.length := by rw [← r2.length]; exact F.len _ _ _ _ h
  refine wpAny_call (codeAny_mono (F.run X.A X.stack s H ⟨us, ks.zip ws⟩ (g us ws) (gV vs zs) Q (E σ) hr I.env0 (hb.to s us ws I.kIn hl) r2 h) fun r s' hq => ?_)
  cases r with
  | error e => exact hx pins H s e s' I hq
  | ok fl => cases fl <;> first | exact I.after hq | exact False.elim hq
theorem pe_callKS (F : FnOk X.prog X.w X.K X.mg X.base CX k f fd ps sp) (hr : Room k X.A) (hg : Gl X x) (hm : X.mg x = some (.ref f)) (hk : PySem.W.keepIn X.K (.ref f) = true) (hb : KBinds X.K fd ps ks g gV) (hx : ∀ σ, PassesAt CX X σ (E σ))
    (ha : PA X (e :: es) t) (hkw : PK X kws tk) (hall : (backToKw pos (keywordEach kws X.env)).all (·.1.isSome) = true) (hks : (backToKw pos (keywordEach kws X.env)).filterMap (·.1) = ks)
    (hdb : (x == ("__debug__" : Str)) = false) (he : starEach (e :: es) X.env = (false, eval e X.env) :: starEach es X.env)
    (hpl : ((backTo pos (starEach (e :: es) X.env)).any (·.1) || (backToKw pos (keywordEach kws X.env)).any (·.1.isNone)) = false) : PE X (.Call (.Name x p) (e :: es) kws pos) (tCallKS sp gV E t tk) := ⟨fun pins s σ H Q I h =>
  wpAny_Call_Name_kw (ld_glob I hg hm (PySem.W.callWith_KW (h₀ := X.base) I.ok.mod.kin hk hall (thn (ha.run pos pins s σ H _ I h) fun us s1 ⟨vs, H1, I1, r, q⟩ =>
    thn (hkw.run pos pins s1 σ H1 _ I1 q) fun ws s2 ⟨zs, H2, I2, rz, q2⟩ => ⟨I2.kIn, by rw [hks]; exact run_fnkS F hr hb (hx σ) I2 r rz q2⟩) hpl he) hdb)⟩
theorem pe_callKS0 (F : FnOk X.prog X.w X.K X.mg X.base CX k f fd ps sp) (hr : Room k X.A) (hg : Gl X x) (hm : X.mg x = some (.ref f)) (hk : PySem.W.keepIn X.K (.ref f) = true) (hb : KBinds X.K fd ps ks g gV) (hx : ∀ σ, PassesAt CX X σ (E σ))
    (hkw : PK X kws tk) (hall : (backToKw pos (keywordEach kws X.env)).all (·.1.isSome) = true) (hks : (backToKw pos (keywordEach kws X.env)).filterMap (·.1) = ks)
    (hdb : (x == ("__debug__" : Str)) = false) (hpl : ((backTo pos (starEach [] X.env)).any (·.1) || (backToKw pos (keywordEach kws X.env)).any (·.1.isNone)) = false) : PE X (.Call (.Name x p) [] kws pos) (tCallKS sp gV E tNil tk) := ⟨fun pins s σ H Q I h =>
  wpAny_Call_Name_kw (ld_glob I hg hm (PySem.W.callWith_KW0 (h₀ := X.base) I.ok.mod.kin hk hall (thn (hkw.run pos pins s σ H _ I h) fun ws s2 ⟨zs, H2, I2, rz, q2⟩ => ⟨I2.kIn, by
    rw [hks, List.append_nil]; exact run_fnkS F hr hb (hx σ) I2 .nil rz q2⟩) hpl) hdb)⟩
end
def dCallK (sp : SpD) (n m : Nat) (idx : List Nat) (t tk : DA) : DE := fun ρ x G Q => t ρ x G fun zs G1 => tk ρ x G1 fun ws G2 => sp (pickK n m idx zs ws) G2 Q x
abbrev PDK (X : Cx) (W : WX) (kws : List Keyword) (d : DA) : Prop := PK X kws (lowA X.K W d)
section
variable {X : Cx} {W : WX} {k n m : Nat} {idx : List Nat} {f : Addr} {fd : FuncData} {ps ks : List Str} {sp : SpD} {x : Str} {p pos kpos : Pos} {e : Expr} {es : List Expr} {kws : List Keyword} {t tk : DA} {da : DE} {nm : Option Str}
theorem pdk_nil : PDK X W [] dNil := ⟨fun pos pins s σ H Q I ⟨Z, ρ, x, G, Qd, sr, hr, h, c, xo⟩ => pk_nil.run pos pins s σ H Q I (c [] [] G H (Fr.refl G H) hr .nil h)⟩
theorem pdk_cons (ha : PD X W e da) (hr : PDK X W kws t) : PDK X W (⟨nm, e, kpos⟩ :: kws) (dCons da t) := ⟨fun pos pins s σ H Q I h => (pk_cons ha hr).run pos pins s σ H Q I (low_cons σ H Q h)⟩
theorem low_callK {K : PySem.W.Frag} : ∀ σ H Q, lowE K W (dCallK sp n m idx t tk) σ H Q → tCallKS (lowSp K sp) (pickK n m idx) (WE W) (lowA K W t) (lowA K W tk) σ H Q := fun σ H Q ⟨Z, ρ, x, G, Qd, sr, hr, h, c, xo⟩ =>
  ⟨Z, ρ, x, G, _, sr, hr, h, fun zs vs G1 H1 f1 r1 d1 q1 => ⟨Z, ρ, x, G1, _, sr.mono f1, r1, q1, fun ws us G2 H2 f2 r2 d2 q2 => ⟨Z, _, G2, Qd, x, (d1.mono f2).pickK d2 n m idx, r2, q2, Ret.mono (f1.trans f2) c, fun C fs d fv G3 H3 f3 r3 e n p q => xo C fs d fv G3 H3 (f1.trans (f2.trans f3)) r3 e n p q⟩, xo.mono f1⟩, xo⟩
theorem pd_callK (F : FnD X.prog X.w X.K X.mg X.base k f fd ps sp) (hr : Room k X.A) (hm : X.mg x = some (.ref f)) (hk : PySem.W.keepIn X.K (.ref f) = true) (hb : KBinds X.K fd ps ks (pickK n m idx) (pickK n m idx)) (tk_ : Takes X W) (ha : PDA X W (e :: es) t) (hkw : PDK X W kws tk) (hg : Gl X x := by rfl)
    (hall : (backToKw pos (keywordEach kws X.env)).all (·.1.isSome) = true := by rfl) (hks : (backToKw pos (keywordEach kws X.env)).filterMap (·.1) = ks := by rfl) (hdb : (x == ("__debug__" : Str)) = false := by decide)
    (he : starEach (e :: es) X.env = (false, eval e X.env) :: starEach es X.env := by rfl) (hpl : ((backTo pos (starEach (e :: es) X.env)).any (·.1) || (backToKw pos (keywordEach kws X.env)).any (·.1.isNone)) = false := by rfl) :
    PD X W (.Call (.Name x p) (e :: es) kws pos) (dCallK sp n m idx t tk) := PE.imp (pe_callKS F hr hg hm hk hb (fun σ => passAt tk_ σ) ha hkw hall hks hdb he hpl) low_callK
theorem pd_callK0 (F : FnD X.prog X.w X.K X.mg X.base k f fd ps sp) (hr : Room k X.A) (hm : X.mg x = some (.ref f)) (hk : PySem.W.keepIn X.K (.ref f) = true) (hb : KBinds X.K fd ps ks (pickK n m idx) (pickK n m idx)) (tk_ : Takes X W) (hkw : PDK X W kws tk) (hg : Gl X x := by rfl)
    (hall : (backToKw pos (keywordEach kws X.env)).all (·.1.isSome) = true := by rfl) (hks : (backToKw pos (keywordEach kws X.env)).filterMap (·.1) = ks := by rfl) (hdb : (x == ("__debug__" : Str)) = false := by decide)
    (hpl : ((backTo pos (starEach [] X.env)).any (·.1) || (backToKw pos (keywordEach kws X.env)).any (·.1.isNone)) = false := by rfl) :
    PD X W (.Call (.Name x p) [] kws pos) (dCallK sp n m idx dNil tk) := PE.imp (pe_callKS0 F hr hg hm hk hb (fun σ => passAt tk_ σ) hkw hall hks hdb hpl) fun σ H Q h => by
  obtain ⟨Z, ρ, x, G, Qd, sr, hr, h, c, xo⟩ := low_callK σ H Q h
  exact c [] [] G H (Fr.refl G H) hr .nil h
end

/-! ### is True, is not True -/
def rdIsB : RD2 := fun z y G Q => ∃ a b : Bool, z = .bl a ∧ y = .bl b ∧ Q (.bl (a == b)) G
def rdNotB : RD2 := fun z y G Q => ∃ a b : Bool, z = .bl a ∧ y = .bl b ∧ Q (.bl (!(a == b))) G
theorem opl_isB {K : PySem.W.Frag} : OpL K rIsB rdIsB := by
  rintro Z z y vz vy G H Qd Q hr dz dy ⟨a, b, rfl, rfl, q⟩ c
  cases dz; cases dy
  refine ⟨a, b, rfl, rfl, ?_⟩
  have e : decide (a = b) = (a == b) := by cases a <;> cases b <;> rfl
  rw [e]; exact Ret.bl c hr q
theorem opl_notB {K : PySem.W.Frag} : OpL K rNotB rdNotB := by
  rintro Z z y vz vy G H Qd Q hr dz dy ⟨a, b, rfl, rfl, q⟩ c
  cases dz; cases dy
  refine ⟨a, b, rfl, rfl, ?_⟩
  have e : decide (a = b) = (a == b) := by cases a <;> cases b <;> rfl
  rw [e]; exact Ret.bl c hr q
/-! ### -x -/
def dNeg (a : DE) : DE := fun ρ x G Q => a ρ x G fun z G1 => ∃ i, z = .int i ∧ Q (.int (-i)) G1
section
variable {X : Cx} {W : WX} {a e : Expr} {da : DE} {pos p1 p2 p3 : Pos} {k : Nat}
theorem pd_neg (ha : PD X W a da) : PD X W (.UnaryOp .USub a pos) (dNeg da) := PE.imp (pe_un un_neg ha) fun σ H Q ⟨Z, ρ, x, G, Qd, sr, hr, h, c, xo⟩ => ⟨Z, ρ, x, G, _, sr, hr, h, fun z v G1 H1 f1 r1 d1 ⟨i, e, q⟩ => by
  subst e
  cases d1
  exact ⟨i, rfl, c _ _ G1 H1 f1 r1 (.int _) q⟩, xo⟩
/-- a list from behind -/
def dRevL (a : DE) : DE := fun ρ x G Q => a ρ x G fun z G1 => ∃ xs, z = .lst xs ∧ Q (.lst xs.reverse) G1
theorem pd_revL (ha : PD X W e da) : PD X W (.Subscript e (.Slice none none (some (.UnaryOp .USub (.Constant (.int 1) k p1) p2)) p3) pos) (dRevL da) := PE.imp (pe_revL ha) fun σ H Q ⟨Z, ρ, x, G, Qd, sr, hr, h, c, xo⟩ => ⟨Z, ρ, x, G, _, sr, hr, h, fun z v G1 H1 f1 r1 d1 ⟨xs, e, q⟩ => by
  subst e
  cases d1 with
  | lst n1 g1 h1 z1 r2 =>
    exact ⟨_, _, rfl, SqL.of h1, fun p hp => Ret.lst (Ret.mono f1 c) r1 hp r2.reverse (by rw [List.length_reverse]; exact z1) q⟩, xo⟩
end
end TD
/-! # TD, 13: a tuple from behind; sorted(set(..)) -/
namespace TD
open PySem PySem.Spec PyProof.Rows L2

section
variable {prog : Program} {w : World} {A : Around} {E : Value → Shared → Prop} {s : Shared}
theorem adjust_back (n : Nat) : Builtin.Slice.sliceAdjust none none (-1) (n : Int) = ((n : Int) - 1, -1) := by
  unfold Builtin.Slice.sliceAdjust
  have h1 : ((-1 : Int) < 0) := by omega
  simp only [h1, if_true]
theorem places_back (n : Nat) : Builtin.Slice.slicePlaces ((n : Int) - 1) (-1) (-1) = n := by
  unfold Builtin.Slice.slicePlaces
  have h1 : ¬ ((-1 : Int) > 0) := by omega
  simp only [h1, if_false]
  split
  · rw [show (-(-1) : Int) = 1 by decide, Int.ediv_one]
    omega
  · omega
theorem sliceApplied_back {sl : Addr} {vl vu vs : Value} {n : Nat} {Q : Int × Int × Nat → Shared → Prop} (hs : s.heap.IsSliceOf sl vl vu vs) (pl : IsPart vl none) (pu : IsPart vu none) (ps : IsPart vs (some (-1)))
    (h : Q ((n : Int) - 1, -1, n) s) : wpAny (model prog w) A (Builtin.Slice.sliceApplied (.ref sl) (pure (n : Int))) Q E s := by
  obtain ⟨os, hos, hcs, hds⟩ := id hs
  unfold Builtin.Slice.sliceApplied Builtin.Slice.sliceFields
  refine wpAny_bind (wpAny_bind (wpAny_field hos hds (x := vl) rfl (wpAny_bind (wpAny_field hos hds (x := vu) rfl (wpAny_bind (wpAny_field hos hds (x := vs) rfl (wpAny_pure ?_)))))))
  refine wpAny_bind (HT.slicePart_ ps ?_)
  show wpAny _ _ (if ((-1 : Int) == 0) = true then _ else _) _ _ s
  rw [if_neg (by decide)]
  refine wpAny_bind (HT.slicePart_ pl (wpAny_bind (HT.slicePart_ pu (wpAny_bind (wpAny_pure ?_)))))
  show wpAny _ _ (match Builtin.Slice.sliceAdjust none none (-1) (n : Int) with | (lo, hi) => pure (lo, (-1 : Int), Builtin.Slice.slicePlaces lo hi (-1))) _ _ s
  rw [adjust_back n]
  show wpAny _ _ (pure ((n : Int) - 1, (-1 : Int), Builtin.Slice.slicePlaces ((n : Int) - 1) (-1) (-1))) _ _ s
  rw [places_back]
  exact wpAny_pure h
theorem fm_congr {α β : Type} {f g : α → Option β} : ∀ {l : List α}, (∀ x ∈ l, f x = g x) → l.filterMap f = l.filterMap g
  | [], _ => rfl
  | x :: l, h => by
    rw [List.filterMap_cons, List.filterMap_cons, h x List.mem_cons_self, fm_congr fun y hy => h y (List.mem_cons_of_mem _ hy)]
theorem pick_all {α : Type} : ∀ zs : List α, ((List.range zs.length).filterMap fun (m : Nat) => zs[m]?) = zs
  | [] => rfl
  | z :: zs => by
    rw [List.length_cons, List.range_succ_eq_map, List.filterMap_cons_some (b := z) (by simp), List.filterMap_map]
    have e : ((fun m => (z :: zs)[m]?) ∘ Nat.succ) = fun m => zs[m]? := by
      funext m
      simp
    rw [e, pick_all zs]
theorem pick_back {α : Type} (xs : List α) : ((List.range xs.length).filterMap fun (m : Nat) => xs[(((xs.length : Nat) : Int) - 1 + (m : Int) * (-1)).toNat]?) = xs.reverse := by
  have e : ((List.range xs.length).filterMap fun (m : Nat) => xs[(((xs.length : Nat) : Int) - 1 + (m : Int) * (-1)).toNat]?) = (List.range xs.length).filterMap fun (m : Nat) => xs.reverse[m]? := by
    refine fm_congr fun m hm => ?_
    have hm' := List.mem_range.mp hm
    have e1 : (((xs.length : Nat) : Int) - 1 + (m : Int) * (-1)).toNat = xs.length - 1 - m := by omega
    rw [e1, List.getElem?_reverse hm']
  rw [e]
  have := pick_all xs.reverse
  rw [List.length_reverse] at this
  exact this
theorem getItem_tuple_back {t sl : Addr} {its : List Value} {vl vu vs : Value} {Q : Value → Shared → Prop} (ht : IsTup s.heap t its.toArray) (hs : s.heap.IsSliceOf sl vl vu vs) (pl : IsPart vl none) (pu : IsPart vu none) (ps : IsPart vs (some (-1)))
    (h : Q (.ref s.heap.objs.size) { s with heap := s.heap.push { cls := .type "tuple", data := .seq its.reverse.toArray } }) (hsz : its.length ≤ sizeLine) : wpAny (model prog w) A (getItem (.ref t) (.ref sl)) Q E s := by
  have hok : sizeOk (.seq its.reverse.toArray) := by
    show its.reverse.toArray.size ≤ sizeLine
    rw [List.size_toArray, List.length_reverse]; exact hsz
  obtain ⟨os, hos, hcs, hds⟩ := id hs
  have isS : s.TypeIs (.ref sl) "slice" := ⟨os, hos, hcs⟩
  unfold getItem
  try with_reducible refine wpAny_holding ?_
  first | refine wpAny_bind (wpAny_pure ?_) | skip
  refine wpAny_bind (wpAny_sequenceKey ht.typeIs (by decide) (wpAny_bind (wpAny_callSpecial?_slot (name := Str.ofString "__getitem__") ht.typeIs PyProof.Rows.slot_tuple_getitem
    (wpAny_call_entry PyProof.Rows.slot_tuple_getitem ht.typeIs entry_tuple_getitem ?_ (args_tuple_getitem _ _)))))
  show wpAny _ _ (Builtin.Tuple.tupleItemsOf (.ref t) >>= _) _ _ s
  refine wpAny_bind (PyProof.Rows.tupleItemsOf_ ht (wpAny_bind (wpAny_typeOf isS ?_)))
  rw [if_pos (by decide)]
  refine wpAny_bind (sliceApplied_back hs pl pu ps ?_)
  show wpAny _ _ (if ((((its.toArray.size : Nat) : Int) - 1) == 0 && (-1 : Int) == 1 && its.toArray.size == its.toArray.size) = true then _ else _) _ _ s
  rw [if_neg (by rw [show ((-1 : Int) == 1) = false by decide, Bool.and_false, Bool.false_and]; exact Bool.false_ne_true)]
  have e : ((List.range its.toArray.size).filterMap fun (k : Nat) => its.toArray[(((its.toArray.size : Nat) : Int) - 1 + (k : Int) * (-1)).toNat]?).toArray = its.reverse.toArray := by
    have := pick_back its
    rw [List.size_toArray]
    congr 1
    rw [← this]
    refine fm_congr fun m _ => ?_
    rw [List.getElem?_toArray]
  rw [e]
  first
    | exact wpAny_bind (m := Builtin.Tuple.tupleExact _) (wpAny_newObj_type (wpAny_pure ⟨_, rfl, wpAny_pure h⟩) hok)
    | exact wpAny_bind (m := Builtin.Tuple.tupleExact _) (wpAny_newObj_type (wpAny_bind (wpAny_pure (wpAny_pure ⟨_, rfl, wpAny_pure h⟩))) hok)
    | exact wpAny_bind (wpAny_bind (m := Builtin.Tuple.tupleExact _) (wpAny_newObj_type (wpAny_pure (wpAny_pure ⟨_, rfl, wpAny_pure h⟩)) hok))
    | exact wpAny_bind (wpAny_bind (m := Builtin.Tuple.tupleExact _) (wpAny_newObj_type (wpAny_pure ⟨_, rfl, wpAny_pure h⟩) hok))
end
def tRevT (K : PySem.W.Frag) (te : TE) : TE := fun σ H Q => te σ H fun x H1 => ∃ a xs, x = .ref a ∧ SqT K H1 a xs ∧ ∀ p, H1 p = none → Q (.ref p) (upd H1 p (.tup xs.reverse))
section
variable {X : Cx} {W : WX}
theorem pe_revT {e : Expr} {te : TE} {k : Nat} {p1 p2 p3 pos : Pos} (he : PE X e te) : PE X (.Subscript e (.Slice none none (some (.UnaryOp .USub (.Constant (.int 1) k p1) p2)) p3) pos) (tRevT X.K te) := by
  refine ⟨fun pins s σ H Q I h => Subscript_ (thn (he.run pins s σ H _ I h) fun v s1 ⟨x, H1, I1, r1, a, xs, ex, hx, q⟩ => ?_)⟩
  subst ex
  cases r1
  have st1 : PO X (some (.UnaryOp .USub (.Constant (.int 1) k p1) p2)) (tPart (tUn (rU fun i => .int (-i)) (tC (.int 1)))) := po_some (pe_un un_neg pe_int)
  refine wpAny_Slice (thn (po_none.run pins s1 σ H1 (fun o H2 => o = none ∧ H2 = H1) I1 ⟨rfl, rfl⟩) fun vl s2 ⟨l, H2, I2, pl, el, e2⟩ => ?_)
  subst el e2
  refine thn (po_none.run pins s2 σ H2 (fun o H3 => o = none ∧ H3 = H2) I2 ⟨rfl, rfl⟩) fun vu s3 ⟨u, H3, I3, pu, eu, e3⟩ => ?_
  subst eu e3
  refine thn (st1.run pins s3 σ H3 (fun o H4 => o = some (-1) ∧ H4 = H3) I3 ⟨1, rfl, -1, rfl, rfl, rfl⟩) fun vs s4 ⟨o, H4, I4, ps, eo, e4⟩ => ?_
  subst eo e4
  have I5 : Inv X pins σ H4 { s4 with heap := s4.heap.push { cls := .type "slice", data := .fields #[vl, vu, vs] } } := I4.kept (t' := s4.toks) fun b ob q => Heap.get?_push_of_some _ q
  obtain ⟨its, r, ht, hz⟩ := I5.tuple hx
  have hlen := r.length
  show wpAny (model X.prog X.w) X.A (subscriptTail e (.Slice none none (some (.UnaryOp .USub (.Constant (.int 1) k p1) p2)) p3) (.ref a) (.ref s4.heap.objs.size)) (EP X pins σ Q) X.xe { s4 with heap := s4.heap.push { cls := .type "slice", data := .fields #[vl, vu, vs] } }
  refine tail_any (ops := [.ref a, .ref s4.heap.objs.size]) ht.typeIs (PyProof.Rows.slot_tuple_getitem.lookup) ?_ (by with_unfolding_all rfl)
  refine getItem_tuple_back ht (Heap.IsSliceOf.new _ vl vu vs) pl pu ps ?_ (by omega)
  refine ⟨.ref _, _, I5.laid (t' := s4.toks) (o := .tup xs.reverse) (fun b ob q => Heap.get?_push_of_some _ q) (Nat.le_refl _) ?_, rfl, q _ (I5.hok.fresh (Nat.le_refl _))⟩
  exact ⟨by rw [List.length_reverse]; exact hz, _, r.reverse, IsTup.new _ _⟩
def dRevT (a : DE) : DE := fun ρ x G Q => a ρ x G fun z G1 => ∃ xs, z = .tup xs ∧ Q (.tup xs.reverse) G1
theorem pd_revT {e : Expr} {da : DE} {k : Nat} {p1 p2 p3 pos : Pos} (ha : PD X W e da) : PD X W (.Subscript e (.Slice none none (some (.UnaryOp .USub (.Constant (.int 1) k p1) p2)) p3) pos) (dRevT da) := PE.imp (pe_revT ha) fun σ H Q ⟨Z, ρ, x, G, Qd, sr, hr, h, c, xo⟩ => ⟨Z, ρ, x, G, _, sr, hr, h, fun z v G1 H1 f1 r1 d1 ⟨xs, e, q⟩ => by
  subst e
  cases d1 with
  | tup n1 g1 h1 z1 r2 =>
    exact ⟨_, _, rfl, SqT.of h1, fun p hp => Ret.tup (Ret.mono f1 c) r1 hp r2.reverse (by rw [List.length_reverse]; exact z1) q⟩, xo⟩
end

/-! ### sorted(set(t)), t a tuple of ints -/
def rSetOfI (K : PySem.W.Frag) (w : World) : List V → Hp → VK → Prop := fun xs H Q => ∃ (p : Addr) (ns : List Int), xs = [.ref p] ∧ SqT K H p (ns.map V.int) ∧ ns.length ≤ 1000 ∧ ∀ a n, n ≤ ns.length → H a = none → Q (.ref a) (upd H a (SetO w a (fun j => decide (j ∈ ns)) n))
theorem cr_setOfI {X : Cx} (hc : X.calm = true) : CallR X (.type "set") (rSetOfI X.K X.w) := by
  intro pins s σ H vs us Q I r h
  obtain ⟨p, ns, rfl, hs, hl, q⟩ := h
  obtain ⟨its, rv, pt, _⟩ := I.tuple hs
  rw [Vals.ref1 r]
  refine call_set_tupI ns (I.ok.hd hc) (show s.heap.IsTuple p its.toArray from pt) (intsAre_of rv) (by unfold scanBound; omega) fun h' tk c R1 hcn k => ?_
  have hn : H s.heap.objs.size = none := I.hok.fresh (Nat.le_refl _)
  exact ⟨.ref _, _, I.laid (t' := tk) k (Nat.le_refl _) (setO_new R1), rfl, q _ c hcn hn⟩
/-- the ints of a tuple, ascending, each once -/
def dSortSet (a : DE) : DE := fun ρ x G Q => a ρ x G fun z G1 => ∃ ns : List Int, z = .tup (ns.map D.int) ∧ ns.length < 64 ∧ ∀ ms : List Int, ms.Pairwise (· < ·) → (∀ k, k ∈ ms ↔ k ∈ ns) → Q (.lst (ms.map D.int)) G1
section
variable {X : Cx} {W : WX} {e : Expr} {a : DE} {p p2 pos pos2 : Pos}
theorem pd_sortSet (hc : X.calm = true) (hm : X.mg "sorted" = none) (hm2 : X.mg "set" = none) (ha : PD X W e a) (hg : Gl X "sorted" := by rfl) (hg2 : Gl X "set" := by rfl)
    (hs : starEach [.Call (.Name "set" p2) [e] [] pos2] X.env = (false, eval (.Call (.Name "set" p2) [e] [] pos2) X.env) :: starEach [] X.env := by rfl) (hs2 : starEach [e] X.env = (false, eval e X.env) :: starEach [] X.env := by rfl) :
    PD X W (.Call (.Name "sorted" p) [.Call (.Name "set" p2) [e] [] pos2] [] pos) (dSortSet a) :=
  PE.imp (pe_callB (cr_sortedSet hc) hg hm (by decide +kernel) (pa_cons (pe_callTy (cr_setOfI hc) hg2 hm2 (by decide +kernel) (pa_cons ha pa_nil hs2) (by decide) (by decide) hs2 (by rfl)) pa_nil hs) (by decide) (by decide) hs (by rfl))
    fun σ H Q ⟨Z, ρ, x, G, Qd, sr, hr, h, c, xo⟩ => ⟨Z, ρ, x, G, _, sr, hr, h, fun z v G1 H1 f1 r1 d1 ⟨ns, ez, hl, q⟩ => by
      subst ez
      cases d1 with
      | tup n1 g1 h1 z1 r2 =>
        rename_i ad vs
        have e1 : vs = ns.map V.int := r2.ints
        subst e1
        refine ⟨ad, ns, rfl, SqT.of h1, by omega, fun b n hn hb => ⟨b, _, n, rfl, upd_same, by omega, fun ms q' hp hm hlen hq' => ?_⟩⟩
        have f2 : Fr G1 H1 G1 (upd H1 b (SetO X.w b (fun j => decide (j ∈ ns)) n)) := Fr.new hb
        have r3 := r1.new (o := SetO X.w b (fun j => decide (j ∈ ns)) n) hb
        exact Ret.lst (Ret.mono (f1.trans f2) c) r3 hq' (DVs.of_ints ms) (by rw [List.length_map, hlen, sizeLine_eq]; omega) (q ms hp fun k => by rw [hm k, decide_eq_true_eq]), xo⟩
end
end TD
/-! # TD, 14: the head's facts -/
namespace ErrX
open PySem PySem.W PySem.Calls PyProof.Rows PySem.HandSPX
open He (ba eqO eqO_ok ga ma)
def clsB (K : Frag) (C : Addr) : Bool := match K.lookup C with
  | some ⟨.type t, _, .cls cd, sl⟩ => decide (t = "type") && (cd.hasDict && (!cd.hasDel && (match cd.mro, sl.toList with
    | .ref C' :: bm, [_, _, _, _, some (.builtin n), _] => decide (C' = C) && (decide (n = "ValueError.__new__") && (refsVE bm && eqO (alongIn K "__init__" bm) (some (some (.builtin "ValueError.__init__")))))
    | _, _ => false)))
  | _ => false
theorem clsB_ok {K : Frag} {C : Addr} (h : clsB K C = true) : ∃ nm q N bs bm sn sub ab col dd k0 k1 k2 k3 k5, K.lookup C = some (excClassObj nm q C N bs bm true sn sub ab col dd k0 k1 k2 k3 k5 "ValueError.__new__") ∧ refsVE bm = true ∧ alongIn K "__init__" bm = some (some (.builtin "ValueError.__init__")) := by
  unfold clsB at h
  split at h
  · rename_i t dd cd sl hl
    obtain ⟨h1, h⟩ := ba h
    obtain ⟨h2, h⟩ := ba h
    obtain ⟨h3, h⟩ := ba h
    split at h
    · rename_i C' bm k0 k1 k2 k3 n k5 hm hs
      obtain ⟨h4, h⟩ := ba h
      obtain ⟨h5, h⟩ := ba h
      obtain ⟨h6, h7⟩ := ba h
      obtain rfl := of_decide_eq_true h1
      obtain rfl := of_decide_eq_true h4
      obtain rfl := of_decide_eq_true h5
      obtain ⟨nm, bs, mro, ns, qn, hd, sn, sub, ab, col, del⟩ := cd
      dsimp only at hm h2 h3
      subst hm h2
      obtain rfl : del = false := by cases del <;> first | rfl | cases h3
      obtain ⟨l⟩ := sl
      simp only at hs
      subst hs
      exact ⟨nm, qn, ns, bs, bm, sn, sub, ab, col, dd, k0, k1, k2, k3, k5, hl, h6, eqO_ok h7⟩
    · cases h
  · cases h
def bodyB (f : Str) : FuncBody → Bool
  | .stmts [.Expr (.Call (.Attribute (.Call (.Name s _) [] [] _) i p2) [.Name f1 _] [] p4) _, .Assign [.Attribute (.Name sf _) f2 _] (.Name f3 _) _] =>
    decide (s = "super") && (decide (i = "__init__") && (decide (f1 = f) && (decide (sf = "self") && (decide (f2 = f) && (decide (f3 = f) && (p2.endLine == p4.line))))))
  | _ => false
theorem bodyB_ok {f : Str} {b : FuncBody} (h : bodyB f b = true) : ∃ r0 r1 r2 r3 r4 r5 q1 q2 q3 q4, b = .stmts (iB f r0 r1 r2 r3 r4 r5 q1 q2 q3 q4) ∧ (r2.endLine == r4.line) = true := by
  unfold bodyB at h
  split at h
  · rename_i s r0 r1 i p2 f1 r3 p4 r5 sf q1 f2 q2 f3 q3 q4
    obtain ⟨h1, h⟩ := ba h
    obtain ⟨h2, h⟩ := ba h
    obtain ⟨h3, h⟩ := ba h
    obtain ⟨h4, h⟩ := ba h
    obtain ⟨h5, h⟩ := ba h
    obtain ⟨h6, h7⟩ := ba h
    obtain rfl := of_decide_eq_true h1
    obtain rfl := of_decide_eq_true h2
    obtain rfl := of_decide_eq_true h3
    obtain rfl := of_decide_eq_true h4
    obtain rfl := of_decide_eq_true h5
    obtain rfl := of_decide_eq_true h6
    exact ⟨_, _, _, _, _, _, _, _, _, _, rfl, h7⟩
  · cases h
def parB (f : Str) : Arguments → Bool
  | ⟨[], [⟨a, none, _⟩, ⟨b, none, _⟩], none, [], [], none, []⟩ => decide (a = "self") && decide (b = f)
  | _ => false
theorem parB_ok {f : Str} {a : Arguments} (h : parB f a = true) : ∃ p1 p2, a = iA f p1 p2 := by
  unfold parB at h
  split at h
  · rename_i a p1 b p2
    obtain ⟨h1, h2⟩ := ba h
    obtain rfl := of_decide_eq_true h1
    obtain rfl := of_decide_eq_true h2
    exact ⟨_, _, rfl⟩
  · cases h
def scB (f : Str) : Scope → Bool
  | ⟨.function, [(a, .local), (b, .local), (c, .free), (d, .globalImplicit)], false, false, []⟩ => decide (a = "self") && (decide (b = f) && (decide (c = "__class__") && decide (d = "super")))
  | _ => false
theorem scB_ok {f : Str} {s : Scope} (h : scB f s = true) : s = iS f := by
  unfold scB at h
  split at h
  · obtain ⟨h1, h⟩ := ba h
    obtain ⟨h2, h⟩ := ba h
    obtain ⟨h3, h4⟩ := ba h
    obtain rfl := of_decide_eq_true h1
    obtain rfl := of_decide_eq_true h2
    obtain rfl := of_decide_eq_true h3
    obtain rfl := of_decide_eq_true h4
    rfl
  · cases h
def fnB (P : Program) (K : Frag) (ef : EF) (C fI : Addr) : Bool := match K.lookup fI with
  | some ⟨_, _, .func ⟨nm, q, pa, bd, sc, gl, [(k, cc)], .none, .none, _, _, _, .ref cda, _, bl⟩, _⟩ =>
    decide (nm = "__init__") && (decide (q = ef.qual) && (parB ef.fld pa && (bodyB ef.fld bd && (scB ef.fld sc && (decide (gl = mainGlobals) && (decide (k = "__class__") && (decide (bl = builtinsNs) && (codeIn K (.ref cda) ef.qual &&
      ((match K.lookup cda with
        | some ⟨_, _, .fields vs, _⟩ => (match (vs[2]? : Option Value) with
          | some (.str file _) => ((P.main.file : Str) == file)
          | _ => false)
        | _ => false) &&
      (match K.lookup cc with
        | some ⟨_, _, .cell (some (.ref C')), _⟩ => decide (C' = C)
        | _ => false))))))))))
  | _ => false
theorem fnB_ok {P : Program} {K : Frag} {ef : EF} {C fI : Addr} (h : fnB P K ef C fI = true) : ∃ (oc : Value) (od : Option Addr) (doc pm : Value) (an : Option Addr) (cda : Addr) (ct : Value) (cc : Addr) (osl : Array (Option Value)) (p1 p2 r0 r1 r2 r3 r4 r5 q1 q2 q3 q4 : Pos),
    K.lookup fI = some ⟨oc, od, .func (ksFn "__init__" ef.qual (iA ef.fld p1 p2) (iB ef.fld r0 r1 r2 r3 r4 r5 q1 q2 q3 q4) (iS ef.fld) .none .none doc pm an (.ref cda) ct cc), osl⟩ ∧ codeIn K (.ref cda) ef.qual = true ∧ (r2.endLine == r4.line) = true ∧
    (∃ ccl cdd vs ccs file tf, K.lookup cda = some ⟨ccl, cdd, .fields vs, ccs⟩ ∧ vs[2]? = some (.str file tf) ∧ ((P.main.file : Str) == file) = true) ∧
    ∃ cl cld csl, K.lookup cc = some ⟨cl, cld, .cell (some (.ref C)), csl⟩ := by
  unfold fnB at h
  split at h
  · rename_i oc od nm q pa bd sc gl k cc doc pm an cda ct bl osl hl
    obtain ⟨h1, h⟩ := ba h
    obtain ⟨h2, h⟩ := ba h
    obtain ⟨h3, h⟩ := ba h
    obtain ⟨h4, h⟩ := ba h
    obtain ⟨h5, h⟩ := ba h
    obtain ⟨h6, h⟩ := ba h
    obtain ⟨h7, h⟩ := ba h
    obtain ⟨h8, h⟩ := ba h
    obtain ⟨h9, h⟩ := ba h
    obtain ⟨h10, h11⟩ := ba h
    obtain rfl := of_decide_eq_true h1
    obtain rfl := of_decide_eq_true h2
    obtain ⟨p1, p2, rfl⟩ := parB_ok h3
    obtain ⟨r0, r1, r2, r3, r4, r5, q1, q2, q3, q4, rfl, hline⟩ := bodyB_ok h4
    obtain rfl := scB_ok h5
    obtain rfl := of_decide_eq_true h6
    obtain rfl := of_decide_eq_true h7
    obtain rfl := of_decide_eq_true h8
    refine ⟨oc, od, doc, pm, an, cda, ct, cc, osl, p1, p2, r0, r1, r2, r3, r4, r5, q1, q2, q3, q4, hl, h9, hline, ?_, ?_⟩
    · split at h10
      · rename_i ccl cdd vs ccs hc
        split at h10
        · rename_i file tf hv
          exact ⟨_, _, vs, _, file, tf, hc, hv, h10⟩
        · cases h10
      · cases h10
    · split at h11
      · rename_i cl cld C' csl hc
        obtain rfl := of_decide_eq_true h11
        exact ⟨_, _, _, hc⟩
      · cases h11
  · cases h
/-- all that Txt asks, but the names of the module -/
def errB (P : Program) (ef : EF) (K : Frag) : Bool :=
  let C := ga K ef.cls
  let fI := ma K C "__init__"
  eqO (nsIn K mainGlobals ef.cls) (some (some (.ref C))) && (eqO (nsIn K mainGlobals "super") (some none) && (!(P.main.scope.names.lookup ("super" : Str)).isSome && (clsB K C && (eqO (findIn K (.ref C) "__setattr__") (some (some (.builtin "object.__setattr__"))) &&
  (eqO (findIn K (.ref C) "__getattribute__") (some (some (.builtin "BaseException.__getattribute__"))) && (eqO (findIn K (.ref C) "__getattr__") (some none) && (eqO (findIn K (.ref C) ef.fld) (some none) && (eqO (findIn K (.ref C) "__init__") (some (some (.ref fI))) &&
  (decide (typeIn K (.ref fI) = some (.type "function")) && (keepIn K (.ref C) && (decide (subIn K (.ref C) (.type "BaseException") = some true) && (decide (subIn K (.ref C) (.type "ValueError") = some true) && (decide (mroIn K C (.ref C) = some true) &&
  (decide (typeIn K (.ref C) = some (.type "type")) && (hasDictIn K C && (decide (exmOne K (.ref C) (.ref C) = some true) && (eqO (nsIn K cStatics "thirdparty.any") (some none) && fnB P K ef C fI)))))))))))))))))
theorem errB_ok {P : Program} {ef : EF} {K : Frag} {h : Heap} {mg : Str → Option Value} (X : K.In h) (G : h.Ns mainGlobals mg) (c : errB P ef K = true) : Txt P K mg ef (ga K ef.cls) (ma K (ga K ef.cls) "__init__") := by
  unfold errB at c
  obtain ⟨c1, c⟩ := ba c
  obtain ⟨c2, c⟩ := ba c
  obtain ⟨c3, c⟩ := ba c
  obtain ⟨c4, c⟩ := ba c
  obtain ⟨c5, c⟩ := ba c
  obtain ⟨c6, c⟩ := ba c
  obtain ⟨c7, c⟩ := ba c
  obtain ⟨c8, c⟩ := ba c
  obtain ⟨c9, c⟩ := ba c
  obtain ⟨c10, c⟩ := ba c
  obtain ⟨c11, c⟩ := ba c
  obtain ⟨c12, c⟩ := ba c
  obtain ⟨c13, c⟩ := ba c
  obtain ⟨c14, c⟩ := ba c
  obtain ⟨c15, c⟩ := ba c
  obtain ⟨c16, c⟩ := ba c
  obtain ⟨c17, c⟩ := ba c
  obtain ⟨c18, c19⟩ := ba c
  exact { gC := mg_of X G (eqO_ok c1), gS := mg_none_of X G (eqO_ok c2), top := by simpa using c3, cls := clsB_ok c4, sa := eqO_ok c5, ga := eqO_ok c6, gg := eqO_ok c7, noN := eqO_ok c8, iC := eqO_ok c9, tC := of_decide_eq_true c10, kC := c11, exC := of_decide_eq_true c12, veC := of_decide_eq_true c13, slf := of_decide_eq_true c14, tyC := of_decide_eq_true c15, hdC := c16, te := of_decide_eq_true c17, op := eqO_ok c18, fn := fnB_ok c19 }
end ErrX

namespace HeY
open PySem PySem.Spec PyProof.Rows L2 He
/-- what the module's names reach, and the model's own statics -/
def asY (g : Addr → Option Obj) (n : Nat) : List Addr := asD g n ++ [PySem.cStatics]
def obsY (n : Nat) (fa : List Fa) (fn : List DefD) (tf : List Defn) (ex : PySem.W.Frag → Bool) (g : Addr → Option Obj) : AlX := (obsT fa fn [] (frT g (asY g n)), ex (frT g (asY g n)) && tabsB g tf (frT g (asY g n)))
theorem saysY_of {n : Nat} {fa : List Fa} {fn : List DefD} {tf : List Defn} {ex : PySem.W.Frag → Bool} {w : World} {h : Heap} (e : obsY n fa fn tf ex h.get? = valX fn [] w) : SaysX fa fn [] tf ex w h (frT h.get? (asY h.get? n)) := by
  have e1 : obsT fa fn [] (frT h.get? (asY h.get? n)) = valT fn [] w := congrArg (fun z : AlX => z.1) e
  obtain ⟨h1, h2⟩ := ba (show (ex (frT h.get? (asY h.get? n)) && tabsB h.get? tf (frT h.get? (asY h.get? n))) = true from congrArg (fun z : AlX => z.2) e)
  have key : ∀ p ∈ tf, PySem.W.codeHdIn (frT h.get? (asY h.get? n)) (cT (frT h.get? (asY h.get? n)) p).1 (cT (frT h.get? (asY h.get? n)) p).2 = true ∧ ∃ o, h.get? (cT (frT h.get? (asY h.get? n)) p).2 = some o ∧ emptyTab o = true := by
    intro p hp
    obtain ⟨h3, h4⟩ := ba (List.all_eq_true.mp h2 p hp)
    refine ⟨h3, ?_⟩
    cases q : h.get? (cT (frT h.get? (asY h.get? n)) p).2 with
    | none => rw [q] at h4; cases h4
    | some o => rw [q] at h4; exact ⟨o, rfl, h4⟩
  refine ⟨e1, h1, fun p hp => (key p hp).1, fun p hp => ?_, fun p hp => ?_⟩
  · obtain ⟨_, o, q, z⟩ := key p hp
    exact frT_none q z
  · obtain ⟨_, o, q, z⟩ := key p hp
    rw [q, emptyTab_eq z]
def hookY (n : Nat) (fa : List Fa) (fn : List DefD) (tf : List Defn) (ex : PySem.W.Frag → Bool) : PySem.W.Hook where
  α := AlX
  obs := fun s => obsY n fa fn tf ex s.heap.get?
  val := fun w => valX fn [] w
  says := fun w h => ∃ K : PySem.W.Frag, K.In h ∧ SaysX fa fn [] tf ex w h K
  of := fun _ _ e => ⟨_, frT_in, saysY_of e⟩
  keeps := fun _ _ _ ⟨K, hK, c⟩ k => ⟨K, PySem.W.Frag.In.keeps hK k, ⟨c.t, c.more, c.hd, c.out, fun p hp => k _ _ (c.empty p hp)⟩⟩
theorem obsY_eq {n : Nat} {fa : List Fa} {fn : List DefD} {tf : List Defn} {ex : PySem.W.Frag → Bool} {g : Addr → Option Obj} {s : Shared} (h : ∀ a, g a = s.heap.get? a) : obsY n fa fn tf ex g = (hookY n fa fn tf ex).obs s := by
  have e : g = s.heap.get? := funext h
  rw [e] <;> rfl
end HeY
/-! # TD, 15: defs of the module by name -/
namespace TD
open PySem PySem.Spec PyProof.Rows L2
theorem fun_of {K : PySem.W.Frag} {x q : Str} {st : Stmt} {kws : List (Str × V)} {f : Addr} {fd : FuncData} (F : FunD K x q (defArgs st) (defBody st) (defScope st) [] kws f fd) : Fun K x q st f fd := by
  obtain ⟨oc, od, dV, kV, doc, pm, an, cdv, ct, osl, e, lk, hcd, hd, _⟩ := F.ex
  rcases hd with ⟨_, hd⟩ | ⟨hd, _⟩
  · subst hd
    exact ⟨⟨oc, od, kV, doc, pm, an, cdv, ct, osl, e, lk, hcd⟩, F.kp⟩
  · exact absurd rfl hd
/-- a def of the module -/
structure Fn (K : PySem.W.Frag) (mg : Str → Option Value) (x : Str) (st : Stmt) (ps : List Str) where
  f : Addr
  fd : FuncData
  F : Fun K x x st f fd
  g : mg x = some (.ref f)
  b : Binds K fd ps []
section
variable {P : Program} {w : World} {K : PySem.W.Frag} {mg : Str → Option Value} {base : Heap}
theorem Fn.of {x : Str} {st : Stmt} {ps : List Str} {f : Addr} {fd : FuncData} (F : FunD K x x (defArgs st) (defBody st) (defScope st) [] [] f fd) (g : mg x = some (.ref f))
    (h : ∀ (kV doc pm : Value) (an : Option Addr) (cdv ct : Value) (us : List Value), us.length = ps.length → bindArgs (PySem.W.fnOf x x (defArgs st) (defBody st) (defScope st) .none kV doc pm an cdv ct) ⟨us, []⟩ = pure (ps.zip us)) : Nonempty (Fn K mg x st ps) :=
  ⟨⟨f, fd, fun_of F, g, (fun_of F).binds h⟩⟩
/-- THE RULE for a def whose code object is known -/
theorem fnDc {x : Str} {st : Stmt} {N ps : List Str} {k : Nat} {sp : SpD} {ds : DS} (T : Fn K mg x st ps) {c : Addr} (hc : T.fd.code = .ref c) (S : FnScope N ps (defScope st)) (len : ∀ zs G Q x, sp zs G Q x → zs.length = ps.length)
    (der : ∀ (A : Around) (outer : List Env) (s : Shared) (H : Hp) (E : XK), Room k (A.deeper (envOfC x (defScope st) s.heap.objs.size T.f (.ref c))) →
      Takes (cxOf (L2.CX P w) P w K mg base N x (defScope st) T.f (.ref c) A outer s H E) (fun c d _ H' => E c d H') →
      PDSs (cxOf (L2.CX P w) P w K mg base N x (defScope st) T.f (.ref c) A outer s H E) (fun c d _ H' => E c d H') (defBody st) ds)
    (read : ∀ (zs : List D) (G : GH) (Q : DK) (x : XD), sp zs G Q x → ds { nx := fun _ G' => Q .non G', rt := Q, xx := fun _ => x } (dstart N zs) G) : FnD P w K mg base (k + 1) T.f T.fd ps sp := by
  obtain ⟨oc, od, kV, doc, pm, an, cdv, ct, osl, e, lk, hcd⟩ := T.F.ex
  obtain rfl : cdv = .ref c := by rw [e] at hc; exact hc
  rw [e] at lk ⊢
  refine L2.fn_of lk hcd S (fun vs H Q E ⟨Z, zs, G, Qd, x, dv, hr, h, c, xo⟩ => by rw [← dv.length]; exact len zs G Qd x h) fun A outer s H vs Q E hroom ⟨Z, zs, G, Qd, x, dv, hr, h, c, xo⟩ => ?_
  refine ⟨_, der A outer s H E hroom (takes_of rfl rfl rfl rfl), Z, dstart N zs, G, _, sr_start dv, hr, read zs G Qd x h, ?_⟩
  exact ⟨fun ρ' σ' G' H' f' r' s' q' => c .non .non G' H' f' r' .non q', fun z v G' H' f' r' d' q' => c z v G' H' f' r' d' q', fun _ _ _ _ _ _ _ q => q.elim, fun _ _ _ _ _ _ _ q => q.elim, fun ρ' σ' G' H' f' s' => xo.mono f'⟩
theorem fnDn {x : Str} {st : Stmt} {N ps : List Str} {k : Nat} {sp : SpD} {ds : DS} (T : Fn K mg x st ps) (S : FnScope N ps (defScope st)) (len : ∀ zs G Q x, sp zs G Q x → zs.length = ps.length)
    (der : ∀ (cdv : Value) (A : Around) (outer : List Env) (s : Shared) (H : Hp) (E : XK), Room k (A.deeper (envOfC x (defScope st) s.heap.objs.size T.f cdv)) →
      Takes (cxOf (L2.CX P w) P w K mg base N x (defScope st) T.f cdv A outer s H E) (fun c d _ H' => E c d H') →
      PDSs (cxOf (L2.CX P w) P w K mg base N x (defScope st) T.f cdv A outer s H E) (fun c d _ H' => E c d H') (defBody st) ds)
    (read : ∀ (zs : List D) (G : GH) (Q : DK) (x : XD), sp zs G Q x → ds { nx := fun _ G' => Q .non G', rt := Q, xx := fun _ => x } (dstart N zs) G) : FnD P w K mg base (k + 1) T.f T.fd ps sp := fnD T.F S len der read
/-- a def by its place in the head's list -/
theorem fn_at {fa : List He.Fa} {fn : List He.DefD} {h : Heap} {x : Str} {st : Stmt} {ps : List Str} (X : K.In h) (G : h.Ns mainGlobals mg) (c : He.SaysD fa fn K) (i j : Nat) (hi : fn[i]? = some ⟨(x, none), x, x, defArgs st, defBody st, defScope st, [], []⟩) (hj : fa[j]? = some (.glo x))
    (hb : ∀ (kV doc pm : Value) (an : Option Addr) (cdv ct : Value) (us : List Value), us.length = ps.length → bindArgs (PySem.W.fnOf x x (defArgs st) (defBody st) (defScope st) .none kV doc pm an cdv ct) ⟨us, []⟩ = pure (ps.zip us)) : Nonempty (Fn K mg x st ps) := by
  obtain ⟨fd, F⟩ := c.def_ i hi
  exact Fn.of (show FunD K x x (defArgs st) (defBody st) (defScope st) [] [] (He.ga K x) fd from F) (He.glo_ok X G (c.fact j hj)) hb
end
/-! ### the lambda's taker by name -/
section
variable {X : Cx} {W : WX}
theorem pd_lamF {TT : (XK → Hp → VK → Prop) → Hp → VK → Prop} {b d : DE} {x a : Str} {st : Stmt} {c P : Addr} {k : Nat} {Ng : List Str} {params : Arguments} {body : Expr} {scope : Scope} {p lpos pos : Pos} (R : Fn X.K X.mg x st [a])
    (hl : ∀ σ H Q, lowE X.K W d σ H Q → tLamP P (X.env.qual ++ "<lambda>") TT (fun E => lowE X.K (fun c d _ H' => E c d H') b) σ H Q) (hg : Gl X x) (Sg : FnScope Ng [a] (defScope st)) (hNg : Ng[0]? = some a) (hva : Vis (defScope st) a)
    (hG : ∀ cdv, LamX.GivesTo X Ng x (defScope st) R.f cdv (defBody st) a (X.env.qual ++ "<lambda>") TT)
    (TB : LamX.TabB X.base X.mg c P) (hcode : X.env.code = .ref c) (hr : Room (k + 2) X.A) (L : LamX.LamS X.env.scope scope) (hdef : defaultsOf params X.env = ([], []))
    (hbind : ∀ (q : Str) (cl : List (Str × Addr)) (pm cv ctv : Value), bindArgs (PySem.W.kla_fn "<lambda>" q params body scope cl pm cv ctv) ⟨[], []⟩ = pure [])
    (hdb : (x == ("__debug__" : Str)) = false) (hd : (a == ("__debug__" : Str)) = false) (hcd : (a == ("__classdict__" : Str)) = false)
    (hbody : ∀ (A : Around) (outer : List Env) (s : Shared) (H : Hp) (E : XK) (f c' : Addr), Room k (A.deeper (LamX.lamEnv X scope s.heap.objs.size f c')) → Takes (LamX.lamCx X A outer s H E scope f c') (fun c d _ H' => E c d H') → PD (LamX.lamCx X A outer s H E scope f c') (fun c d _ H' => E c d H') body b) :
    PD X W (.Call (.Name x p) [.Lambda params body scope lpos] [] pos) d := by
  obtain ⟨oc, od, kV, doc, pm, an, cdv, ct, osl, e, lk, hcg⟩ := R.F.ex
  rw [e] at lk
  exact pd_lam hl hg R.g R.F.kp lk hcg (e ▸ R.b) Sg hNg hva (hG cdv) TB hcode hr L hdef hbind hbody hdb hd hcd
end
end TD
/-! # TD, 16: ranges with a step, dict.get, walks over dicts, dicts of tuple keys, list of a range, sorted(set(list)), three names at once -/
namespace TD
open PySem PySem.Spec PyProof.Rows L2
/-! ### range(a, b, c) -/
def rngC (lo c : Int) (n : Nat) : List D := (List.range n).map fun i => D.int (lo + (i : Nat) * c)
theorem it_rangeC {K : PySem.W.Frag} {Z : Addr → Prop} {lo c : Int} {n : Nat} {G0 : GH} {H0 : Hp} (hz : n ≤ sizeLine) : ItOk K Z (Itc lo c n) (rngC lo c n) G0 H0 (fun _ => True) := by
  have len : (rngC lo c n).length = n := by unfold rngC; rw [List.length_map, List.length_range]
  refine ⟨by rw [len]; exact hz, fun Z' i G H up f r gd hi => by rw [len] at hi; exact hi, fun Z' G H up f r gd => by rw [len]; exact Nat.le_refl _, fun Z' i G H x H' up f r gd hi y => ?_⟩
  obtain ⟨e1, e2⟩ := y
  subst e1 e2
  rw [len] at hi
  exact ⟨_, by unfold rngC; rw [List.getElem?_map, List.getElem?_range hi] <;> rfl, Fr.refl _ _, r, .int _⟩
def dIRng3 (t : DA) : DI := fun ρ x G R => t ρ x G fun zs G1 => ∃ (i j c : Int) (n : Nat), zs = [.int i, .int j, .int c] ∧ RgC i j c n ∧ n ≤ sizeLine ∧ R (rngC i c n) (fun _ => True) G1
theorem DVs.three {K : PySem.W.Frag} {Z : Addr → Prop} {G : GH} {H : Hp} {a b c : D} {vs : List V} (h : DVs K Z G H [a, b, c] vs) : ∃ u v w, vs = [u, v, w] ∧ DV K Z G H a u ∧ DV K Z G H b v ∧ DV K Z G H c w := by
  cases h with
  | cons d1 r =>
    obtain ⟨v, w, rfl, d2, d3⟩ := r.two
    exact ⟨_, _, _, rfl, d1, d2, d3⟩
section
variable {X : Cx} {W : WX} {tg e e1 e2 e3 : Expr} {a b d : DE} {t : DA} {p pos tpos : Pos}
theorem pdi_range3 (hm : X.mg "range" = none) (ha : PDA X W [e1, e2, e3] t) (hg : Gl X "range" := by rfl) (hs : starEach [e1, e2, e3] X.env = (false, eval e1 X.env) :: starEach [e2, e3] X.env := by rfl)
    (hpl : (backTo pos (starEach [e2, e3] X.env)).any (·.1) = false := by rfl) :
    PDI X W tg (.Call (.Name "range" p) [e1, e2, e3] [] pos) (dIRng3 t) := PI.imp (pi_range3 hg hm ha hs hpl) fun σ H R ⟨Z, ρ, x, G, Qd, sr, hr, h, c, xo⟩ => ⟨Z, ρ, x, G, _, sr, hr, h, fun zs vs G1 H1 f1 r1 d1 ⟨i, j, k, n, ez, h1, h2, q⟩ => by
  subst ez
  obtain ⟨v, u, w, rfl, dz, dy, dw⟩ := d1.three
  cases dz
  cases dy
  cases dw
  exact ⟨i, j, k, n, rfl, h1, c _ _ G1 H1 _ f1 r1 (it_rangeC h2) q⟩, xo⟩
/-! ### d.get(k, z) -/
def dGet2 (a b c : DE) : DE := fun ρ x G Q => a ρ x G fun l G1 => ∃ p, l = .ref p ∧ (∃ kvs, DAt G1 p kvs) ∧ b ρ x G1 fun y G2 => c ρ x G2 fun z G3 => ∃ k kvs, y = kD k ∧ DAt G3 p kvs ∧ Q ((valD kvs k).getD z) G3
theorem pd_get2 {o f : Expr} {apos : Pos} {do_ de df : DE} (hu : X.A.units + 64 < cLine) (ho : PD X W o do_) (he : PD X W e de) (hf : PD X W f df) (m : M2 X o "get" apos e f pos := by exact ⟨by rfl, by rfl, by rfl, by rfl⟩) :
    PD X W (.Call (.Attribute o "get" apos) [e, f] [] pos) (dGet2 do_ de df) := PE.imp (pe_dget2 (by omega) ho he hf m) fun σ H Q ⟨Z, ρ, x, G, Qd, sr, hr, h, c, xo⟩ =>
  ⟨Z, ρ, x, G, _, sr, hr, h, fun l lv G1 H1 f1 r1 d1 ⟨p, el, ⟨kvs0, g0⟩, q1⟩ => by
    subst el
    cases d1
    obtain ⟨ks0, hd0, _⟩ := g0.rd r1
    refine ⟨p, rfl, .inl ⟨ks0, hd0⟩, Z, ρ, x, G1, _, sr.mono f1, r1, q1, fun y yv G2 H2 f2 r2 d2 q2 => ⟨Z, ρ, x, G2, _, sr.mono (f1.trans f2), r2, q2, fun z zv G3 H3 f3 r3 d3 ⟨k, kvs, ey, g, q⟩ => ?_, xo.mono (f1.trans f2)⟩, xo.mono f1⟩
    subst ey
    obtain rfl := kD_V d2
    obtain ⟨ks, hd, pr⟩ := g.rd r3
    have f4 := f1.trans (f2.trans f3)
    cases e : valD kvs k with
    | none =>
      rw [e] at q
      exact ⟨none, .inl ⟨ks, k, hd, rfl, (pr.noval e).symm⟩, c z zv G3 H3 f4 r3 d3 q⟩
    | some dd =>
      rw [e] at q
      obtain ⟨v, hv, dv⟩ := pr.val e
      exact ⟨some v, .inl ⟨ks, k, hd, rfl, hv.symm⟩, c dd v G3 H3 f4 r3 dv q⟩, xo⟩
/-! ### for k in d -/
theorem PairD.getV {K : PySem.W.Frag} {Z : Addr → Prop} {G : GH} {H : Hp} {κ : Type} {k : κ} {v : V} : ∀ {l : List (κ × D)} {m : List (κ × V)} {i : Nat}, PairD K Z G H l m → m[i]? = some (k, v) → ∃ d, l[i]? = some (k, d) ∧ DV K Z G H d v
  | _, _, _, .nil, h => by simp at h
  | p :: l, q :: m, 0, .cons a b, h => by
    simp only [List.getElem?_cons_zero, Option.some.injEq] at h
    subst h
    refine ⟨p.2, ?_, a.2⟩
    rw [List.getElem?_cons_zero]
    exact congrArg some (Prod.ext a.1 rfl)
  | p :: l, q :: m, i + 1, .cons a b, h => by
    simp only [List.getElem?_cons_succ] at h ⊢
    exact PairD.getV b h
def iKeysF (td : TE) : TI := fun σ H R => td σ H fun x H1 => ∃ p kvs, x = .ref p ∧ ((∃ o, H1 p = some (.frz o (.dK kvs)) ∧ R (Itk p o kvs) H1) ∨ (H1 p = some (.dK kvs) ∧ ∀ o, R (Itk p o kvs) (upd H1 p (.frz o (.dK kvs)))))
theorem pi_keysF {td : TE} (he : PE X e td) : PI X tg e (iKeysF td) := by
  refine ⟨fun pins s σ H R I h => ?_⟩
  refine thn (he.run pins s σ H _ I h) fun u s1 ⟨x, H1, I1, rx, p, kvs, ex, q⟩ => ?_
  subst ex
  obtain rfl : u = Value.ref p := rx
  have key : ∀ (o : Obj) (H2 : Hp), Inv X pins σ H2 s1 → H2 p = some (.frz o (.dK kvs)) → R (Itk p o kvs) H2 → wpAny (model X.prog X.w) X.A (pyIter (.ref p)) (PIE X pins σ tg R) X.xe s1 := fun o H2 I2 hd q => by
    obtain ⟨hs, hgd, hx, es, ep, vs, hdt, hsz, kv, hm⟩ := I2.frzK hd
    refine iter_keys hs hgd hx hdt (pi_one (tk := s1.toks) I2 _ (turn_keys _ hdt) ⟨_, Heap.get?_push_size _ rfl, rfl, ?_⟩ q)
    rw [hsz] <;> rfl
  rcases q with ⟨o, hd, q⟩ | ⟨hd, q⟩
  · exact key o H1 I1 hd q
  · obtain ⟨od, I2⟩ := I1.lock hd True.intro
    exact key od _ I2 upd_same (q od)
/-- the keys of a dict; it is locked from then on -/
def dIKeys (a : DE) : DI := fun ρ x G R => a ρ x G fun l G1 => ∃ p kvs, l = .ref p ∧ kvs.length ≤ sizeLine ∧ ((G1 p = some (.dK kvs) ∧ ∀ o ks, R (kvs.map fun kv => kD kv.1) (fun G => G p = some (.fK o ks kvs)) (gup G1 p (.fK o ks kvs))) ∨
  ∃ o ks, G1 p = some (.fK o ks kvs) ∧ R (kvs.map fun kv => kD kv.1) (fun G => G p = some (.fK o ks kvs)) G1)
theorem it_keys {K : PySem.W.Frag} {Z : Addr → Prop} {p : Addr} {o : Obj} {ks : List (Key × V)} {kvs : List (Key × D)} {G0 : GH} {H0 : Hp} (hr : HR K Z G0 H0) (g : G0 p = some (.fK o ks kvs)) (hz : kvs.length ≤ sizeLine) :
    ItOk K Z (Itk p o ks) (kvs.map fun kv => kD kv.1) G0 H0 (fun G => G p = some (.fK o ks kvs)) := by
  have len : (kvs.map fun kv => kD kv.1).length = kvs.length := List.length_map _
  have l2 : kvs.length = ks.length := (hr.at_ _ _ g).2.length
  refine ⟨by rw [len]; exact hz, fun Z' i G H up f r gd hi => ⟨(r.at_ _ _ gd).1, by rw [len] at hi; omega⟩, fun Z' G H up f r gd => ⟨(r.at_ _ _ gd).1, by rw [len]; omega⟩, fun Z' i G H x H' up f r gd hi y => ?_⟩
  obtain ⟨e1, k, v, e2, e3⟩ := y
  subst e1 e3
  obtain ⟨d, h1, _⟩ := (r.at_ _ _ gd).2.getV e2
  exact ⟨_, by rw [List.getElem?_map, h1]; rfl, Fr.refl _ _, r, kD_D k⟩
theorem pdi_keys (ha : PD X W e a) : PDI X W tg e (dIKeys a) := PI.imp (pi_keysF ha) fun σ H R ⟨Z, ρ, x, G, Qd, sr, hr, h, c, xo⟩ => ⟨Z, ρ, x, G, _, sr, hr, h, fun l lv G1 H1 f1 r1 d1 ⟨p, kvs, el, hz, q⟩ => by
  subst el
  cases d1
  rcases q with ⟨g, q⟩ | ⟨o, ks, g, q⟩
  · obtain ⟨ks, hp, pr⟩ := r1.at_ _ _ g
    refine ⟨p, ks, rfl, .inr ⟨hp, fun o => ?_⟩⟩
    have f2 : Fr G1 H1 (gup G1 p (.fK o ks kvs)) (upd H1 p (.frz o (.dK ks))) := Fr.put g
    have r2 : HR X.K Z (gup G1 p (.fK o ks kvs)) (upd H1 p (.frz o (.dK ks))) := r1.put g ⟨upd_same, pr.mono f2⟩
    exact c _ _ _ _ _ (f1.trans f2) r2 (it_keys r2 gup_same hz) (q o ks)
  · obtain ⟨hp, pr⟩ := r1.at_ _ _ g
    exact ⟨p, ks, rfl, .inl ⟨o, hp, c _ _ G1 H1 _ f1 r1 (it_keys r1 g hz) q⟩⟩, xo⟩
/-! ### dicts of tuple keys -/
def dNewT : DE := fun _ _ G Q => ∀ p, G p = none → Q (.ref p) (gup G p (.dT []))
theorem pd_newT : PD X W (.Dict [] [] pos) dNewT := PE.imp pe_dnewT fun σ H Q ⟨Z, ρ, x, G, Qd, sr, hr, h, c, xo⟩ p hp =>
  c (.ref p) _ _ _ (Fr.newT hp) (hr.newT (m := .dT []) hp ⟨[], upd_same, .nil⟩) (.ref p) (h p (hr.free hp))
theorem kDs_V {K : PySem.W.Frag} {Z : Addr → Prop} {G : GH} {H : Hp} : ∀ {k : List Key} {vs : List V}, DVs K Z G H (k.map kD) vs → vs = k.map kV
  | [], _, .nil => rfl
  | k :: r, _, .cons a b => by
    rw [kD_V a, kDs_V b] <;> rfl
theorem kDs_D {K : PySem.W.Frag} {Z : Addr → Prop} {G : GH} {H : Hp} : ∀ k : List Key, DVs K Z G H (k.map kD) (k.map kV)
  | [] => .nil
  | k :: r => .cons (kD_D k) (kDs_D r)
def tkD (k : List Key) : D := .tup (k.map kD)
/-- d[k] = e, k a tuple -/
def dSetT (a o i : DE) : DS := fun D ρ G => a ρ (D.xx ρ) G fun z G1 => o ρ (D.xx ρ) G1 fun l G2 => i ρ (D.xx ρ) G2 fun y G3 => ∃ p kvs k, l = .ref p ∧ y = tkD k ∧ G3 p = some (.dT kvs) ∧ kvs.length < sizeLine ∧ D.nx ρ (gup G3 p (.dT (putD kvs k z)))
theorem pds_setT {o i : Expr} {p' : Pos} {da do_ di : DE} (hu : X.A.units + 64 < cLine) (ha : PD X W e da) (ho : PD X W o do_) (hi : PD X W i di)
    (hs : swapsWithSole [.Subscript o i p'] e pos.line X.env = pure false := by rfl) (hw : swappedStores [.Subscript o i p'] e X.env = pure none := by rfl) (h1 : (assignEach [.Subscript o i p'] X.env).map (·.2) = [assign (.Subscript o i p') X.env] := by rfl)
    (hg : ∀ v, assign (.Subscript o i p') X.env v = (do
      let ov ← holding [v] (eval o X.env)
      let iv ← holding [v, ov] (eval i X.env)
      standAt p'
      holding [v, ov, iv] (setItem ov iv v)
      release [v, ov, iv] []) := by intro _; rfl) : PDS X W (.Assign [.Subscript o i p'] e pos) (dSetT da do_ di) :=
  PS.imp (ps_asg ha (pg_sub ho hi (set_dict (by omega)) hg) hs hw h1) fun E σ H ⟨Z, ρ, G, Dd, sr, hr, h, ok⟩ => ⟨Z, ρ, Dd.xx ρ, G, _, sr, hr, h, fun z v G1 H1 f1 r1 d1 q1 =>
    ⟨Z, ρ, Dd.xx ρ, G1, _, sr.mono f1, r1, q1, fun l lv G2 H2 f2 r2 d2 q2 => ⟨Z, ρ, Dd.xx ρ, G2, _, sr.mono (f1.trans f2), r2, q2, fun y yv G3 H3 f3 r3 d3 ⟨p, kvs, k, el, ey, g, hz, q⟩ => by
      subst el ey
      cases d2
      cases d3 with
      | tup n1 g1 h1 z1 rr =>
        rename_i b vs
        obtain rfl := kDs_V rr
        obtain ⟨ks, hp, rk⟩ := r3.at_ _ _ g
        refine ⟨p, _, rfl, DPut.t hp h1 (by rw [← rk.length]; exact hz), ?_⟩
        have f4 : Fr G3 H3 (gup G3 p (.dT (putD kvs k z))) (upd H3 p (.dT (putK ks k v))) := Fr.put g
        have r4 : HR X.K Z (gup G3 p (.dT (putD kvs k z))) (upd H3 p (.dT (putK ks k v))) := r3.put g ⟨_, upd_same, (rk.mono f4).put (d1.mono (f2.trans (f3.trans f4)))⟩
        exact ok.nx ρ σ _ _ (f1.trans (f2.trans (f3.trans f4))) r4 (sr.mono (f1.trans (f2.trans (f3.trans f4)))) q, (ok.xo sr).mono (f1.trans f2)⟩, (ok.xo sr).mono f1⟩, ok.xo sr⟩
/-- list(d), d of tuple keys -/
def rdListT : RDC := fun zs G Q => ∃ p kvs, zs = [.ref p] ∧ G p = some (.dT kvs) ∧ kvs.length ≤ sizeLine ∧ (∀ kv ∈ kvs, kv.1.length ≤ sizeLine) ∧ Q (.lst (kvs.map fun kv => tkD kv.1)) G
def rListT : List V → Hp → VK → Prop := fun xs H Q => ∃ d kvs, xs = [V.ref d] ∧ Rd H d (.dT kvs) ∧ ∀ p bs, H p = none → IsKeys H kvs bs → Q (.ref p) (upd H p (.lst (bs.map V.ref)))
theorem call_listT (hc : X.calm = true) : CallR X (.type "list") rListT := call_list_dT hc
theorem keys_DVs {K : PySem.W.Frag} {Z : Addr → Prop} {G : GH} {H : Hp} (hr : HR K Z G H) : ∀ {kvs : List (List Key × D)} {ks : List (List Key × V)} {bs : List Addr}, PairD K Z G H kvs ks → IsKeys H ks bs → (∀ kv ∈ kvs, kv.1.length ≤ sizeLine) →
    DVs K Z G H (kvs.map fun kv => tkD kv.1) (bs.map V.ref)
  | _, _, _, .nil, .nil, _ => .nil
  | kv :: kvs, k :: ks, b :: bs, .cons a r, .cons e t, h => by
    have e2 : H b = some (.tup (kv.1.map kV)) := by rw [a.1]; exact e
    obtain ⟨z1, g1⟩ := hr.tupZ e2
    exact .cons (.tup z1 g1 e2 (by rw [List.length_map]; exact h kv List.mem_cons_self) (kDs_D _)) (keys_DVs hr r t fun x hx => h x (List.mem_cons_of_mem _ hx))
theorem cll_listT {K : PySem.W.Frag} : CallL K rListT rdListT := by
  rintro Z zs vs G H Qd Q hr ds ⟨p, kvs, rfl, g, hz, hk, q⟩ c
  obtain ⟨v, rfl, d⟩ := ds.one
  cases d
  obtain ⟨ks, hp, pr⟩ := hr.at_ _ _ g
  refine ⟨p, ks, rfl, .inl hp, fun q0 bs hq ik => ?_⟩
  have dv := keys_DVs hr pr ik hk
  exact Ret.lst c hr hq dv (by rw [List.length_map, ← ik.length, ← pr.length]; exact hz) q
/-! ### list(range(a, b)) -/
def dLstRg (a b : DE) : DE := fun ρ x G Q => a ρ x G fun z G1 => b ρ x G1 fun y G2 => ∃ i j, z = .int i ∧ y = .int j ∧ RgOk i j ∧ Q (.lst (rngD i (j - i).toNat)) G2
theorem pd_lstRg {p2 pos2 : Pos} {da db : DE} (hc : X.calm = true) (hm : X.mg "list" = none) (hm2 : X.mg "range" = none) (ha : PD X W e1 da) (hb : PD X W e2 db) (hg : Gl X "list" := by rfl) (hg2 : Gl X "range" := by rfl)
    (na2 : starEach [e1, e2] X.env = (false, eval e1 X.env) :: starEach [e2] X.env := by rfl) (nb2 : starEach [e2] X.env = (false, eval e2 X.env) :: starEach [] X.env := by rfl)
    (na : starEach [.Call (.Name "range" p2) [e1, e2] [] pos2] X.env = (false, eval (.Call (.Name "range" p2) [e1, e2] [] pos2) X.env) :: starEach [] X.env := by rfl)
    (hp : ((backTo pos2 (starEach [e2] X.env)).any fun x => x.1) = false := by rfl) :
    PD X W (.Call (.Name "list" p) [.Call (.Name "range" p2) [e1, e2] [] pos2] [] pos) (dLstRg da db) := PE.imp (pe_listRg hc hg hm (prg_2 hg2 hm2 ha hb na2 nb2 hp) na) fun σ H Q ⟨Z, ρ, x, G, Qd, sr, hr, h, c, xo⟩ =>
  ⟨Z, ρ, x, G, _, sr, hr, h, fun z v G1 H1 f1 r1 d1 q1 => ⟨Z, ρ, x, G1, _, sr.mono f1, r1, q1, fun y u G2 H2 f2 r2 d2 ⟨i, j, ez, ey, ok, q⟩ => by
    subst ez ey
    cases d1
    cases d2
    refine ⟨i, j, rfl, rfl, ok, fun q0 hq => ?_⟩
    have e3 : rgV i j = ((List.range (j - i).toNat).map fun k => i + (k : Nat)).map V.int := by unfold rgV; rw [List.map_map]; rfl
    have e4 : rngD i (j - i).toNat = ((List.range (j - i).toNat).map fun k => i + (k : Nat)).map D.int := by unfold rngD; rw [List.map_map]; rfl
    rw [e3]
    rw [e4] at q
    exact Ret.lst (Ret.mono (f1.trans f2) c) r2 hq (DVs.of_ints _) (by rw [List.length_map, List.length_map, List.length_range]; exact Nat.le_trans ok.2.2.2.2 (by rw [sizeLine_eq]; decide)) q, xo.mono f1⟩, xo⟩
/-! ### a, b, c = x, y, z: three local names -/
def dPar3 (i j l : Nat) (a b c : DE) : DS := fun D ρ G => a ρ (D.xx ρ) G fun z G1 => b ρ (D.xx ρ) G1 fun y G2 => c ρ (D.xx ρ) G2 fun w G3 => D.nx (((ρ.set i (some z)).set j (some y)).set l (some w)) G3
theorem pds_par3 (i j l : Nat) {x y z : Str} {c : DE} {px py pz pt : Pos} {kt k2 pt2} (hc : X.calm = true) (hN : X.N.Nodup) (ha : PD X W e1 a) (hb : PD X W e2 b) (h3 : PD X W e3 c) (hi : X.N[i]? = some x := by rfl) (hj : X.N[j]? = some y := by rfl) (hl : X.N[l]? = some z := by rfl) (hij : i ≠ j := by decide) (hil : i ≠ l := by decide) (hjl : j ≠ l := by decide)
    (hx : X.env.scope.names.lookup x = some .local := by rfl) (hy : X.env.scope.names.lookup y = some .local := by rfl) (hz : X.env.scope.names.lookup z = some .local := by rfl)
    (hw : swappedStores [.Tuple [.Name x px, .Name y py, .Name z pz] kt pt] (.Tuple [e1, e2, e3] k2 pt2) X.env = pure (some [x, y, z]) := by rfl)
    (hs : swapsWithSole [.Tuple [.Name x px, .Name y py, .Name z pz] kt pt] (.Tuple [e1, e2, e3] k2 pt2) pos.line X.env = pure false := by rfl)
    (hs1 : starEach (e1 :: [e2, e3]) X.env = (false, eval e1 X.env) :: starEach [e2, e3] X.env := by rfl) (hs2 : starEach (e2 :: [e3]) X.env = (false, eval e2 X.env) :: starEach [e3] X.env := by rfl) (hs3 : starEach (e3 :: []) X.env = (false, eval e3 X.env) :: starEach [] X.env := by rfl) :
    PDS X W (.Assign [.Tuple [.Name x px, .Name y py, .Name z pz] kt pt] (.Tuple [e1, e2, e3] k2 pt2) pos) (dPar3 i j l a b c) :=
  PS.imp (ps_par3 hc hN hi hj hl hij hil hjl hx hy hz (pa_cons ha (pa_cons hb (pa_cons h3 pa_nil hs3) hs2) hs1) hw hs) fun E σ H ⟨Z, ρ, G, Dd, sr, hr, h, ok⟩ =>
    ⟨Z, ρ, Dd.xx ρ, G, _, sr, hr, h, fun z v G1 H1 f1 r1 d1 q1 => ⟨Z, ρ, Dd.xx ρ, G1, _, sr.mono f1, r1, q1, fun y u G2 H2 f2 r2 d2 q2 => ⟨Z, ρ, Dd.xx ρ, G2, _, sr.mono (f1.trans f2), r2, q2, fun w uw G3 H3 f3 r3 d3 q3 =>
      ⟨v, u, uw, rfl, ok.nx _ _ G3 H3 (f1.trans (f2.trans f3)) r3 ((((sr.mono (f1.trans (f2.trans f3))).set (d1.mono (f2.trans f3)) i).set (d2.mono f3) j).set d3 l) q3⟩, (ok.xo sr).mono (f1.trans f2)⟩, (ok.xo sr).mono f1⟩, ok.xo sr⟩
end
end TD
/-! # TD, 17: sorted(set(xs)), xs a list of ints -/
namespace TD
open PySem PySem.Spec PyProof.Rows L2
section
variable {P : Program} {w : World} {A : Around} {E : Value → Shared → Prop} {s : Shared}
/-- an empty set, just made -/
abbrev freshSet (w : World) : Obj := { cls := .type "set", dict := none, data := .set #[] 0 (.fresh 0 0 (!w.params.followText "set-order")) }
abbrev h0 (w : World) (h : Heap) : Heap := h.push (freshSet w)
theorem set_of_list {l : Addr} {its : Array Value} (ns : List Int) {Q : Value → Shared → Prop} (hh : A.handled = none) (hl : s.heap.IsList l its) (hit : IntsAre its.toList ns) (hb : ns.length + 1 < scanBound)
    (h : ∀ (h' : Heap) (tk c : Nat), SetR w h' s.heap.objs.size (fun j => decide (j ∈ ns)) c → c ≤ ns.length → (∀ b o, s.heap.get? b = some o → h'.get? b = some o) → Q (.ref s.heap.objs.size) { s with heap := h', toks := tk }) :
    wpAny (model P w) A (call (.type "set") [.ref l]) Q E s := by
  have size_is : its.size = ns.length := by have q := IntsAre.length hit; rw [Array.length_toList] at q; exact q
  obtain ⟨c, tl, hmro⟩ := F.called_set.mro
  have m1 := F.called_set.made
  have m2 := F.called_set.sub
  refine wpAny_call (codeAny_of_tree ?_)
  show wpAny _ _ (callAny (.type "set") _) _ _ _
  refine wpAny_pure ⟨Code.quiet_builtin _ (by decide +kernel), codeAny_builtin F.entry_type_call ?_⟩
  rw [Around.under_plain (weight_type_call_type "set" [.ref l] []) rfl]
  have m3 := F.called_set.notType
  have m4 := F.called_set.canCreate
  have m5 := F.typeCall_set_1 (.ref l)
  repeat (any_goals (first | assumption | wp_step))
  refine codeAny_mono (code_set_led1 (.ref l) (E := E) (Q₁ := fun obj s₁ => obj = .ref s.heap.objs.size ∧ s₁ = { s with heap := h0 w s.heap }) ⟨rfl, rfl⟩) fun r s₁ hr => ?_
  cases r with
  | error e => exact hr
  | ok fl =>
    cases fl with
    | ret obj =>
      obtain ⟨rfl, rfl⟩ := hr
      have got : (h0 w s.heap).get? s.heap.objs.size = some (freshSet w) := Heap.get?_push_size _ rfl
      have its_set : Shared.TypeIs { s with heap := h0 w s.heap } (.ref s.heap.objs.size) "set" := ⟨_, got, rfl⟩
      have m6 := F.called_set.init.lookup
      have m7 := F.called_set.init.bind (.ref s.heap.objs.size)
      repeat (any_goals (first | assumption | wp_step))
      refine codeAny_mono (codeAny_call_builtin (R := wants (fun r s₂ => r = .none ∧ ∃ h' tk c, s₂ = { s with heap := h', toks := tk } ∧ SetR w h' s.heap.objs.size (fun j => decide (j ∈ ns)) c ∧ c ≤ ns.length ∧
          (∀ b o, s.heap.get? b = some o → h'.get? b = some o)) E) F.called_set.init.plain F.entry_set_init (check_set_init_1 its_set ?_)) fun r₂ s₂ hr₂ => ?_
      · obtain ⟨ol, hol, hcl, nl, hdl⟩ := hl
        obtain ⟨ocls, odict, odata, oslots⟩ := ol
        simp only at hcl hdl
        subst hcl; subst hdl
        have at1 : (h0 w s.heap).get? l = some { cls := .type "list", dict := odict, data := .seq its nl, slots := oslots } := Heap.get?_push_of_some _ hol
        have no1 := F.sub_list_set
        have no2 := F.sub_list_frozenset
        have no3 : (Value.type "list" == Value.type "dict") = false := by decide
        have is1 : (h0 w s.heap).IsList l its := ⟨_, at1, rfl, nl, rfl⟩
        unfold Builtin.«set.__init__» noKeywords Builtin.Frozenset.updateFrom
        generalize hPI : pyIter = PI
        wp_walk
        subst hPI
        refine wpAny_pyIter_list is1 ?_
        refine wpAny_bind (wpAny_runValue ?_)
        have low : l < s.heap.objs.size := Heap.lt_size hol
        have calm3 : A.in1.in1.in1.handled = none := by simp [hh]
        have neI : l ≠ (h0 w s.heap).objs.size := by
          rw [Heap.size_push]; exact Nat.ne_of_lt (Nat.lt_succ_of_lt low)
        have out : s.heap.objs.size ∉ [(h0 w s.heap).objs.size, l] := by
          rw [Heap.size_push]; simp only [List.mem_cons, List.mem_singleton, List.not_mem_nil, or_false, not_or]
          exact ⟨Nat.ne_of_lt (Nat.lt_succ_self _), Nat.ne_of_gt low⟩
        have vals : ∀ (i : Nat) (v : Value), its[i]? = some v → ∃ k t, ns[i]? = some k ∧ v = .int k t := fun i v hv => by
          have hi : i < ns.length := by rw [← size_is]; exact (Array.getElem?_eq_some_iff.mp hv).1
          obtain ⟨t, e⟩ := PyProof.Rows.IntsAre.int_at hit i v (by rw [Array.getElem?_toList]; exact hv)
          refine ⟨ns[i], t, List.getElem?_eq_getElem hi, ?_⟩
          rw [e, List.getD_eq_getElem?_getD, List.getElem?_eq_getElem hi] <;> rfl
        refine set_update_ints ((Walks.list calm3 _ l neI its).toS) s.heap.objs.size out ns size_is hb vals (its.size - 0) 0 _ (by omega) (Nat.zero_le _)
          ⟨⟨_, Heap.get?_push_size _ rfl, rfl, rfl⟩, (is1.push _)⟩ ?first ?rest
        case first => exact ⟨0, Nat.le_refl 0, setR_new_at (Heap.get?_push_of_some _ got)⟩
        case rest =>
          intro s' c' hm hc' done
          obtain ⟨h', g2, d', tk', os'⟩ := s'
          obtain rfl : g2 = s.gens := hm.gens
          obtain rfl : d' = s.drawn := hm.drawn
          obtain rfl : os' = s.os := hm.os
          show wpAny _ _ _ _ _ _
          refine wpAny_pure ?_
          show wpAny _ _ (ret Value.none) _ _ _
          rw [size_is] at hc'
          refine wpAny_pure ⟨rfl, h', tk', c', rfl, done, hc', fun b o e => ?_⟩
          have b0 : b < s.heap.objs.size := Heap.lt_size e
          have b2 : b ≠ (h0 w s.heap).objs.size := by rw [Heap.size_push]; exact Nat.ne_of_lt (Nat.lt_succ_of_lt b0)
          exact hm.heap b o (by simp only [List.mem_cons, List.mem_singleton, List.not_mem_nil, or_false, not_or]; exact ⟨Nat.ne_of_lt b0, b2⟩) (Heap.get?_push_of_some _ (Heap.get?_push_of_some _ e))
      · cases r₂ with
        | error e => exact hr₂
        | ok fl₂ =>
          cases fl₂ with
          | ret r =>
            obtain ⟨rfl, h', tk, c', rfl, done, hc', hk'⟩ := hr₂
            repeat (any_goals (first | assumption | wp_step))
            exact h _ _ _ done hc' hk'
          | _ => exact hr₂.elim
    | _ => exact hr.elim
end
def rSetOfL (K : PySem.W.Frag) (w : World) : List V → Hp → VK → Prop := fun xs H Q => ∃ (p : Addr) (ns : List Int), xs = [.ref p] ∧ SqL K H p (ns.map V.int) ∧ ns.length ≤ 1000 ∧ ∀ a n, n ≤ ns.length → H a = none → Q (.ref a) (upd H a (SetO w a (fun j => decide (j ∈ ns)) n))
theorem cr_setOfL {X : Cx} (hc : X.calm = true) : CallR X (.type "set") (rSetOfL X.K X.w) := by
  intro pins s σ H vs us Q I r h
  obtain ⟨p, ns, rfl, hs, hl, q⟩ := h
  obtain ⟨its, rv, pl, _⟩ := I.list hs
  rw [Vals.ref1 r]
  refine set_of_list ns (I.ok.hd hc) pl.isList (by simpa using intsAre_of rv) (by unfold scanBound; omega) fun h' tk c R1 hcn k => ?_
  have hn : H s.heap.objs.size = none := I.hok.fresh (Nat.le_refl _)
  exact ⟨.ref _, _, I.laid (t' := tk) k (Nat.le_refl _) (setO_new R1), rfl, q _ c hcn hn⟩
/-- the ints of a list, ascending, each once -/
def dSortSetL (a : DE) : DE := fun ρ x G Q => a ρ x G fun z G1 => ∃ ns : List Int, z = .lst (ns.map D.int) ∧ ns.length < 64 ∧ ∀ ms : List Int, ms.Pairwise (· < ·) → (∀ k, k ∈ ms ↔ k ∈ ns) → Q (.lst (ms.map D.int)) G1
section
variable {X : Cx} {W : WX} {e : Expr} {a : DE} {p p2 pos pos2 : Pos}
theorem pd_sortSetL (hc : X.calm = true) (hm : X.mg "sorted" = none) (hm2 : X.mg "set" = none) (ha : PD X W e a) (hg : Gl X "sorted" := by rfl) (hg2 : Gl X "set" := by rfl)
    (hs : starEach [.Call (.Name "set" p2) [e] [] pos2] X.env = (false, eval (.Call (.Name "set" p2) [e] [] pos2) X.env) :: starEach [] X.env := by rfl) (hs2 : starEach [e] X.env = (false, eval e X.env) :: starEach [] X.env := by rfl) :
    PD X W (.Call (.Name "sorted" p) [.Call (.Name "set" p2) [e] [] pos2] [] pos) (dSortSetL a) :=
  PE.imp (pe_callB (cr_sortedSet hc) hg hm (by decide +kernel) (pa_cons (pe_callTy (cr_setOfL hc) hg2 hm2 (by decide +kernel) (pa_cons ha pa_nil hs2) (by decide) (by decide) hs2 (by rfl)) pa_nil hs) (by decide) (by decide) hs (by rfl))
    fun σ H Q ⟨Z, ρ, x, G, Qd, sr, hr, h, c, xo⟩ => ⟨Z, ρ, x, G, _, sr, hr, h, fun z v G1 H1 f1 r1 d1 ⟨ns, ez, hl, q⟩ => by
      subst ez
      cases d1 with
      | lst n1 g1 h1 z1 r2 =>
        rename_i ad vs
        have e1 : vs = ns.map V.int := r2.ints
        subst e1
        refine ⟨ad, ns, rfl, SqL.of h1, by omega, fun b n hn hb => ⟨b, _, n, rfl, upd_same, by omega, fun ms q' hp hm hlen hq' => ?_⟩⟩
        have f2 : Fr G1 H1 G1 (upd H1 b (SetO X.w b (fun j => decide (j ∈ ns)) n)) := Fr.new hb
        have r3 := r1.new (o := SetO X.w b (fun j => decide (j ∈ ns)) n) hb
        exact Ret.lst (Ret.mono (f1.trans f2) c) r3 hq' (DVs.of_ints ms) (by rw [List.length_map, hlen, sizeLine_eq]; omega) (q ms hp fun k => by rw [hm k, decide_eq_true_eq]), xo⟩
end
end TD
/-! # TD, 18: max of the nested data of a list that was grown -/
namespace TD
open PySem PySem.Spec PyProof.Rows L2
def rdMaxR : RDC := fun zs G Q => ∃ a x xs n, zs = [.ref a] ∧ G a = some (.lst (x :: xs)) ∧ n ≤ 60 ∧ (∀ y ∈ x :: xs, pureN n y = true) ∧ PySem.W.AlikeAll ((x :: xs).map toP) ∧ Q (maxF x xs) G
theorem cll_maxR {K : PySem.W.Frag} : CallL K (rMinP K true) rdMaxR := by
  rintro Z zs vs G H Qd Q hr ds ⟨a, x, xs, n, rfl, g, hn, hp, ha, q⟩ c
  obtain ⟨v, rfl, d⟩ := ds.one
  cases d
  obtain ⟨ws, h1, r1, z1⟩ := hr.at_ _ _ g
  refine ⟨a, ws, toP x, xs.map toP, rfl, SqL.of h1, r1.dp n hp, ha, depthAll_le (n := 60) (fun y hy => ?_), fun v hv => ?_⟩
  · rw [← List.map_cons] at hy
    obtain ⟨e, he, rfl⟩ := List.mem_map.mp hy
    exact Nat.le_trans (pureN_ok n e (hp e he)).2 hn
  · have e := (PySem.W.argBest_fold (fun a b => dltP b a) D.non x xs xs.length (Nat.le_refl _))
    rw [List.length_map] at hv
    have eq : (fun i j => if (true : Bool) = true then PySem.W.dataLt ((toP x :: xs.map toP).getD j .none) ((toP x :: xs.map toP).getD i .none) else PySem.W.dataLt ((toP x :: xs.map toP).getD i .none) ((toP x :: xs.map toP).getD j .none)) = fun i j => dltP ((x :: xs).getD j .non) ((x :: xs).getD i .non) := by
      funext i j
      rw [if_pos rfl, ← List.map_cons, getD_toP, getD_toP] <;> rfl
    rw [eq] at hv
    obtain ⟨d, hd, rd⟩ := r1.getV hv
    have e2 := e.2
    rw [List.getD_eq_getElem?_getD, hd, List.take_length] at e2
    have e3 : d = maxF x xs := e2
    rw [e3] at rd
    exact Ret.here c hr rd q
end TD
/-! # TD readings: what is common -/
namespace TD
open PySem L2
/-- a comprehension by an invariant -/
theorem dComp_inv {Gd : GH → Prop} {g : DG} {t : DT} {e : DE} {ρ : Rho} {Q : DK} : ∀ {items acc : List D} {G : GH} (I : Nat → List D → GH → Prop) (n : Nat), I n acc G → (∀ i acc G, n ≤ i → i ≤ n + items.length → I i acc G → Gd G) →
    (∀ i d acc G, items[i]? = some d → I (n + i) acc G → ∀ K1 : List D → GH → Prop, (∀ acc' G', I (n + i + 1) acc' G' → K1 acc' G') → g d ρ (fun _ _ _ => False) G fun ρ2 G2 => t ρ2 (fun _ _ _ => False) G2 fun b G3 => if b = true then e ρ2 (fun _ _ _ => False) G3 (fun y G4 => K1 (acc ++ [y]) G4) else K1 acc G3) →
    (∀ acc G, I (n + items.length) acc G → Q (.lst acc) G) → dComp Gd g t e ρ Q items acc G
  | [], acc, G, I, n, h0, hG, hs, hd => ⟨hG n acc G (Nat.le_refl _) (Nat.le_add_right _ _) h0, hd acc G h0⟩
  | d :: r, acc, G, I, n, h0, hG, hs, hd => by
    refine ⟨hG n acc G (Nat.le_refl _) (Nat.le_add_right _ _) h0, hs 0 d acc G rfl h0 (fun acc' G' => dComp Gd g t e ρ Q r acc' G') fun acc' G' h' => ?_⟩
    refine dComp_inv I (n + 1) h' (fun i acc G h1 h2 h3 => hG i acc G (by omega) (by rw [List.length_cons]; omega) h3) (fun i d acc G h1 h2 => ?_) (fun acc G h => hd acc G (by rw [List.length_cons, Nat.add_comm r.length 1, ← Nat.add_assoc]; exact h))
    have := hs (i + 1) d acc G (by simpa using h1) (by rw [Nat.add_comm i 1, ← Nat.add_assoc]; exact h2)
    rw [show n + (i + 1) + 1 = n + 1 + i + 1 by omega] at this
    exact this
/-- a comprehension whose parts change nothing: what each item gives -/
theorem dComp_fm {Gd : GH → Prop} {g : DG} {t : DT} {e : DE} {ρ : Rho} {Q : DK} {G : GH} (f : D → Option D) (hG : Gd G) : ∀ {items acc : List D},
    (∀ d ∈ items, ∀ K1 : Option D → Prop, K1 (f d) → g d ρ (fun _ _ _ => False) G fun ρ2 G2 => t ρ2 (fun _ _ _ => False) G2 fun b G3 => if b = true then e ρ2 (fun _ _ _ => False) G3 (fun y G4 => G4 = G ∧ K1 (some y)) else G3 = G ∧ K1 none) →
    (∀ d ∈ items, ∀ (K1 K2 : Option D → GH → Prop), (∀ o G', K1 o G' → K2 o G') → (g d ρ (fun _ _ _ => False) G fun ρ2 G2 => t ρ2 (fun _ _ _ => False) G2 fun b G3 => if b = true then e ρ2 (fun _ _ _ => False) G3 (fun y G4 => K1 (some y) G4) else K1 none G3) →
      g d ρ (fun _ _ _ => False) G fun ρ2 G2 => t ρ2 (fun _ _ _ => False) G2 fun b G3 => if b = true then e ρ2 (fun _ _ _ => False) G3 (fun y G4 => K2 (some y) G4) else K2 none G3) →
    Q (.lst (acc ++ items.filterMap f)) G → dComp Gd g t e ρ Q items acc G := by
  intro items
  induction items with
  | nil => intro acc _ _ q; exact ⟨hG, by simpa using q⟩
  | cons d r ih =>
    intro acc h hm q
    refine ⟨hG, ?_⟩
    have h1 := h d List.mem_cons_self (fun o => o = f d) rfl
    refine hm d List.mem_cons_self (fun o G' => G' = G ∧ o = f d) (fun o G' => match o with | some y => dComp Gd g t e ρ Q r (acc ++ [y]) G' | none => dComp Gd g t e ρ Q r acc G') (fun o G' ⟨e1, e2⟩ => ?_) h1
    subst e1 e2
    have hr := fun d hd => h d (List.mem_cons_of_mem _ hd)
    have hmr := fun d hd => hm d (List.mem_cons_of_mem _ hd)
    cases e3 : f d with
    | none => exact ih hr hmr (by rw [List.filterMap_cons_none e3] at q; exact q)
    | some y => exact ih hr hmr (by rw [List.filterMap_cons_some e3] at q; rw [List.append_assoc]; exact q)
/-- a comprehension of one value an item -/
theorem dComp_map {Gd : GH → Prop} {g : DG} {e : DE} {ρ : Rho} {Q : DK} {G : GH} (f : D → D) (hG : Gd G) : ∀ {items acc : List D},
    (∀ d ∈ items, ∀ K1 : D → GH → Prop, K1 (f d) G → g d ρ (fun _ _ _ => False) G fun ρ2 G2 => e ρ2 (fun _ _ _ => False) G2 K1) →
    Q (.lst (acc ++ items.map f)) G → dComp Gd g dYes e ρ Q items acc G := by
  intro items
  induction items with
  | nil => intro acc _ q; exact ⟨hG, by simpa using q⟩
  | cons d r ih =>
    intro acc h q
    exact ⟨hG, h d List.mem_cons_self (fun y G4 => dComp Gd g dYes e ρ Q r (acc ++ [y]) G4) (ih (fun d hd => h d (List.mem_cons_of_mem _ hd)) (by rw [List.append_assoc]; exact q))⟩
/-- .. with an if -/
theorem dComp_filter {Gd : GH → Prop} {g : DG} {t : DT} {e : DE} {ρ : Rho} {Q : DK} {G : GH} (p : D → Bool) (f : D → D) (hG : Gd G) : ∀ {items acc : List D},
    (∀ d ∈ items, ∀ K1 : Option D → GH → Prop, K1 (if p d = true then some (f d) else none) G → g d ρ (fun _ _ _ => False) G fun ρ2 G2 => t ρ2 (fun _ _ _ => False) G2 fun b G3 => if b = true then e ρ2 (fun _ _ _ => False) G3 (fun y G4 => K1 (some y) G4) else K1 none G3) →
    Q (.lst (acc ++ (items.filter p).map f)) G → dComp Gd g t e ρ Q items acc G := by
  intro items
  induction items with
  | nil => intro acc _ q; exact ⟨hG, by simpa using q⟩
  | cons d r ih =>
    intro acc h q
    refine ⟨hG, h d List.mem_cons_self (fun o G' => match o with | some y => dComp Gd g t e ρ Q r (acc ++ [y]) G' | none => dComp Gd g t e ρ Q r acc G') ?_⟩
    have hr := fun d hd => h d (List.mem_cons_of_mem _ hd)
    by_cases hp : p d = true
    · rw [if_pos hp]
      rw [List.filter_cons_of_pos hp, List.map_cons] at q
      exact ih hr (by rw [List.append_assoc]; exact q)
    · rw [if_neg hp]
      rw [List.filter_cons_of_neg hp] at q
      exact ih hr q
/-- a loop by an invariant -/
theorem dLoop_inv {Gd : GH → Prop} {g : DG} {b : DS} {E : DEnds} : ∀ {items : List D} {ρ : Rho} {G : GH} (I : Nat → Rho → GH → Prop) (n : Nat), I n ρ G → (∀ i ρ G, n ≤ i → i ≤ n + items.length → I i ρ G → Gd G) →
    (∀ i d ρ G, items[i]? = some d → I (n + i) ρ G → ∀ K1 : Rho → GH → Prop, (∀ ρ' G', I (n + i + 1) ρ' G' → K1 ρ' G') → g d ρ (fun _ _ _ => False) G fun ρ2 G2 => b { E with nx := K1, ct := K1, bk := E.nx } ρ2 G2) →
    (∀ ρ G, I (n + items.length) ρ G → E.nx ρ G) → dLoop Gd g b E items ρ G
  | [], ρ, G, I, n, h0, hG, hs, hd => ⟨hG n ρ G (Nat.le_refl _) (Nat.le_add_right _ _) h0, hd ρ G h0⟩
  | d :: r, ρ, G, I, n, h0, hG, hs, hd => by
    refine ⟨hG n ρ G (Nat.le_refl _) (Nat.le_add_right _ _) h0, hs 0 d ρ G rfl h0 (dLoop Gd g b E r) fun ρ' G' h' => ?_⟩
    refine dLoop_inv I (n + 1) h' (fun i ρ G h1 h2 h3 => hG i ρ G (by omega) (by rw [List.length_cons]; omega) h3) (fun i d ρ G h1 h2 => ?_) (fun ρ G h => hd ρ G (by rw [List.length_cons, Nat.add_comm r.length 1, ← Nat.add_assoc]; exact h))
    have := hs (i + 1) d ρ G (by simpa using h1) (by rw [Nat.add_comm i 1, ← Nat.add_assoc]; exact h2)
    rw [show n + (i + 1) + 1 = n + 1 + i + 1 by omega] at this
    exact this
theorem ex_two {α β : Type} {a : α} {b : β} {P : α → β → Prop} : (∃ z y, (a = z ∧ b = y) ∧ P z y) ↔ P a b := ⟨fun ⟨_, _, ⟨e1, e2⟩, h⟩ => by subst e1 e2; exact h, fun h => ⟨a, b, ⟨rfl, rfl⟩, h⟩⟩
theorem ex_two' {α β : Type} {a : α} {b : β} {P : α → β → Prop} : (∃ z y, a = z ∧ b = y ∧ P z y) ↔ P a b := ⟨fun ⟨_, _, e1, e2, h⟩ => by subst e1 e2; exact h, fun h => ⟨a, b, rfl, rfl, h⟩⟩
theorem zipD_ints : ∀ (a b : List Int), zipD (a.map D.int) (b.map D.int) = (List.zip a b).map fun p => D.tup [.int p.1, .int p.2]
  | [], _ => by unfold zipD; simp
  | _ :: _, [] => by unfold zipD; simp
  | a :: as, b :: bs => by
    have ih := zipD_ints as bs
    unfold zipD at ih ⊢
    rw [List.map_cons, List.map_cons, List.zipWith_cons_cons, List.zip_cons_cons, List.map_cons, ih]
/-! ### readings at known values -/
section
variable {G : GH} {Q : DK} {i j : Int} {a b : PySem.Str} {xs ys : List D} {ns : List Int} {p : Addr} {lo hi : Option Int} {R : List D → (GH → Prop) → Prop}
theorem ad_ii : rdAdd (.int i) (.int j) G Q = Q (.int (i + j)) G := rfl
theorem ad_ss : rdAdd (.str a) (.str b) G Q = (a.length + b.length ≤ sizeLine ∧ Q (.str (a ++ b)) G) := rfl
theorem ad_tt : rdAdd (.tup xs) (.tup ys) G Q = (xs.length + ys.length ≤ sizeLine ∧ Q (.tup (xs ++ ys)) G) := rfl
theorem ad_ll : rdAdd (.lst xs) (.lst ys) G Q = (xs.length + ys.length ≤ sizeLine ∧ Q (.lst (xs ++ ys)) G) := rfl
theorem mu_ii : rdMul (.int i) (.int j) G Q = (CMul i j ∧ Q (.int (i * j)) G) := rfl
theorem mu_li : rdMul (.lst xs) (.int i) G Q = (-(2 ^ 63) ≤ i ∧ i < 2 ^ 63 ∧ xs.length * i.toNat ≤ sizeLine ∧ Q (.lst (List.replicate i.toNat xs).flatten) G) := rfl
theorem mu_ti : rdMul (.tup xs) (.int i) G Q = (xs ≠ [] ∧ 2 ≤ i ∧ i ≤ 1000 ∧ xs.length ≤ 1000 ∧ Q (.tup (List.replicate i.toNat xs).flatten) G) := rfl
theorem ix_t : rdIx (.tup xs) (.int i) G Q = (∃ d, atI xs i = some d ∧ Q d G) := rfl
theorem ix_l : rdIx (.lst xs) (.int i) G Q = (∃ d, atI xs i = some d ∧ Q d G) := rfl
theorem ix_s : rdIx (.scr ns) (.int i) G Q = (∃ d, atI ns i = some d ∧ Q (.int d) G) := rfl
theorem ix_r : rdIx (.ref p) (.int i) G Q = (∃ xs d, G p = some (.lst xs) ∧ atI xs i = some d ∧ Q d G) := rfl
theorem ix_w : rdIx (.str a) (.int i) G Q = (a.length ≤ sizeLine ∧ ∃ c, atI a.cps.toList i = some c ∧ Q (.str ⟨#[c]⟩) G) := rfl
theorem ln_t : rdLen [.tup xs] G Q = Q (.int xs.length) G := rfl
theorem ln_l : rdLen [.lst xs] G Q = Q (.int xs.length) G := rfl
theorem ln_s : rdLen [.scr ns] G Q = Q (.int ns.length) G := rfl
theorem ln_w : rdLen [.str a] G Q = (a.length ≤ sizeLine ∧ Q (.int a.length) G) := rfl
theorem ln_r : rdLen [.ref p] G Q = (∃ xs, G p = some (.lst xs) ∧ Q (.int xs.length) G) := rfl
theorem sr_t : srcD (.tup xs) G R = R xs (fun _ => True) := rfl
theorem sr_l : srcD (.lst xs) G R = R xs (fun _ => True) := rfl
theorem sr_s : srcD (.scr ns) G R = R (ns.map D.int) (fun _ => True) := rfl
theorem sr_r : srcD (.ref p) G R = (∃ xs, G p = some (.lst xs) ∧ R xs (fun G => G p = some (.lst xs))) := rfl
theorem sl_t : rdSl (.tup xs) lo hi G Q = Q (.tup (cutX xs lo hi)) G := rfl
theorem sl_l : rdSl (.lst xs) lo hi G Q = Q (.lst (cutX xs lo hi)) G := rfl
theorem sl_s : rdSl (.scr ns) lo hi G Q = Q (.lst ((cutX ns lo hi).map D.int)) G := rfl
theorem sl_r : rdSl (.ref p) lo hi G Q = (∃ xs, G p = some (.lst xs) ∧ Q (.lst (cutX xs lo hi)) G) := rfl
theorem sl_w : rdSl (.str a) lo hi G Q = (a.length ≤ sizeLine ∧ Q (.str (cutS a lo hi)) G) := rfl
theorem tu_t : rdTuple [.tup xs] G Q = Q (.tup xs) G := rfl
theorem tu_l : rdTuple [.lst xs] G Q = Q (.tup xs) G := rfl
theorem tu_r : rdTuple [.ref p] G Q = (∃ xs, G p = some (.lst xs) ∧ Q (.tup xs) G) := rfl
theorem li_t : rdList [.tup xs] G Q = Q (.lst xs) G := rfl
theorem li_l : rdList [.lst xs] G Q = Q (.lst xs) G := rfl
theorem li_r : rdList [.ref p] G Q = (∃ xs, G p = some (.lst xs) ∧ Q (.lst xs) G) := rfl
theorem lm_t : rdListM [.tup xs] G Q = (∀ p, G p = none → Q (.ref p) (gup G p (.lst xs))) := rfl
theorem lm_l : rdListM [.lst xs] G Q = (∀ p, G p = none → Q (.ref p) (gup G p (.lst xs))) := rfl
theorem mx2 : rdMax2 [.int i, .int j] G Q = Q (.int (if j > i then j else i)) G := rfl
theorem mn2 : rdMin2 [.int i, .int j] G Q = Q (.int (if j < i then j else i)) G := rfl
theorem ab1 : rdAbs [.int i] G Q = Q (.int (if i < 0 then -i else i)) G := rfl
theorem in1 : rdInt1 [.int i] G Q = Q (.int i) G := rfl
theorem is2 {z : D} {c : String} : rdIsi [z, .ty c] G Q = (∃ t, tyD G z = some t ∧ c ∈ tyNames ∧ Q (.bl (isiB t c)) G) := rfl
theorem ap_ {y : D} : rdAppend (.ref p) [y] G Q = ∃ a xs y', (D.ref p) = .ref a ∧ [y] = [y'] ∧ G a = some (.lst xs) ∧ xs.length < sizeLine ∧ Q .non (gup G a (.lst (xs ++ [y']))) := rfl
theorem ty_r {z : D} {T : String} : tyM T (.ref p) G = ((T = "list" ∧ ∃ xs, G p = some (.lst xs)) ∨ (T = "dict" ∧ ((∃ kvs, G p = some (.dK kvs)) ∨ ∃ kvs, G p = some (.dT kvs)))) := rfl
end
theorem at0 {α : Type} {a : α} {r : List α} : atI (a :: r) 0 = some a := atI_nat (j := 0) rfl
theorem at1 {α : Type} {a b : α} {r : List α} : atI (a :: b :: r) 1 = some b := atI_nat (j := 1) rfl
theorem at2 {α : Type} {a b c : α} {r : List α} : atI (a :: b :: c :: r) 2 = some c := atI_nat (j := 2) rfl
theorem dix_ {G : GH} {Q : DK} {p : Addr} {i : Int} {kvs : List (Key × D)} {d : D} (g : G p = some (.dK kvs)) (h : valD kvs (.inl i) = some d) (q : Q d G) : rdDIx (.ref p) (.int i) G Q := ⟨p, .inl i, d, rfl, rfl, ⟨kvs, .inl g, h⟩, q⟩
theorem dixA {G : GH} {Q : DK} {p : Addr} {i : Int} {kvs : List (Key × D)} {d : D} (g : DAt G p kvs) (h : valD kvs (.inl i) = some d) (q : Q d G) : rdDIx (.ref p) (.int i) G Q := ⟨p, .inl i, d, rfl, rfl, ⟨kvs, g, h⟩, q⟩
theorem i30 : ixN 3 0 = some 0 := rfl
theorem i31 : ixN 3 1 = some 1 := rfl
theorem i32 : ixN 3 2 = some 2 := rfl
theorem set0 {α : Type} {a x : α} {r : List α} : (a :: r).set 0 x = x :: r := rfl
theorem set1 {α : Type} {a b x : α} {r : List α} : (a :: b :: r).set 1 x = a :: x :: r := rfl
theorem set2 {α : Type} {a b c x : α} {r : List α} : (a :: b :: c :: r).set 2 x = a :: b :: x :: r := rfl
theorem sz (n : Nat) (h : n ≤ 16777216) : n ≤ sizeLine := by rw [sizeLine_eq]; exact h
end TD
/-! # readings of dicts -/
namespace TD
open PySem L2
theorem valD_put_same {κ : Type} [DecidableEq κ] {kvs : List (κ × D)} {k : κ} {d : D} : valD (putD kvs k d) k = some d := by
  unfold putD
  by_cases h : (kvs.any fun kv => decide (kv.1 = k)) = true
  · rw [if_pos h]
    induction kvs with
    | nil => simp at h
    | cons p r ih =>
      by_cases e : p.1 = k
      · simp [valD, e]
      · have h2 : (r.any fun kv => decide (kv.1 = k)) = true := by simpa [e] using h
        have := ih h2
        simp only [valD, List.map_cons, if_neg e, List.find?_cons, decide_eq_false e] at this ⊢
        exact this
  · rw [if_neg h]
    induction kvs with
    | nil => simp [valD]
    | cons p r ih =>
      have h2 : ¬ (p.1 = k) ∧ ¬ (r.any fun kv => decide (kv.1 = k)) = true := by
        constructor
        · intro e; exact h (by simp [e])
        · intro e; exact h (by simp only [List.any_cons, e, Bool.or_true])
      have := ih h2.2
      simp only [valD, List.cons_append, List.find?_cons, decide_eq_false h2.1] at this ⊢
      exact this
theorem valD_put_ne {κ : Type} [DecidableEq κ] {kvs : List (κ × D)} {k k' : κ} {d : D} (hne : k' ≠ k) : valD (putD kvs k d) k' = valD kvs k' := by
  unfold putD
  split
  · induction kvs with
    | nil => rfl
    | cons p r ih =>
      rw [List.map_cons]
      by_cases e : p.1 = k
      · have e2 : ¬ p.1 = k' := fun z => hne (z.symm.trans e)
        rw [if_pos e]
        simp only [valD, List.find?_cons, decide_eq_false e2]
        by_cases h : (r.any fun kv => decide (kv.1 = k)) = true
        · exact ih h
        · have e3 : r.map (fun kv => if kv.1 = k then (kv.1, d) else kv) = r := by
            refine (List.map_congr_left fun q hq => ?_).trans (List.map_id r)
            rw [if_neg]
            · rfl
            · intro z
              exact h (List.any_eq_true.mpr ⟨q, hq, by simp [z]⟩)
          rw [e3]
      · rw [if_neg e]
        by_cases e2 : p.1 = k'
        · simp [valD, e2]
        · rename_i h
          have h2 : (r.any fun kv => decide (kv.1 = k)) = true := by simpa [e] using h
          have := ih h2
          simp only [valD, List.find?_cons, decide_eq_false e2] at this ⊢
          exact this
  · induction kvs with
    | nil => simp [valD, Ne.symm hne]
    | cons p r ih =>
      rename_i h
      have h2 : ¬ (r.any fun kv => decide (kv.1 = k)) = true := fun e => h (by simp only [List.any_cons, e, Bool.or_true])
      by_cases e2 : p.1 = k'
      · simp [valD, e2]
      · have := ih h2
        simp only [valD, List.cons_append, List.find?_cons, decide_eq_false e2] at this ⊢
        exact this
theorem length_putD {κ : Type} [DecidableEq κ] (kvs : List (κ × D)) (k : κ) (d : D) : (putD kvs k d).length ≤ kvs.length + 1 := by
  unfold putD
  split
  · rw [List.length_map]; omega
  · rw [List.length_append, List.length_singleton]; exact Nat.le_refl _
theorem keys_putD {κ : Type} [DecidableEq κ] (kvs : List (κ × D)) (k : κ) (d : D) : (putD kvs k d).map (·.1) = if k ∈ kvs.map (·.1) then kvs.map (·.1) else kvs.map (·.1) ++ [k] := by
  have e : (kvs.any fun kv => decide (kv.1 = k)) = decide (k ∈ kvs.map (·.1)) := by
    induction kvs with
    | nil => simp
    | cons p r ih =>
      rw [List.any_cons, ih, List.map_cons]
      by_cases h : p.1 = k
      · simp [h]
      · have h' : ¬ k = p.1 := fun z => h z.symm
        simp [h, h']
  unfold putD
  rw [e]
  by_cases h : k ∈ kvs.map (·.1)
  · rw [if_pos (by simpa using h), if_pos h, List.map_map]
    refine List.map_congr_left fun p _ => ?_
    show (if p.1 = k then (p.1, d) else p).1 = p.1
    split <;> rfl
  · rw [if_neg (by simpa using h), if_neg h, List.map_append]
    rfl
theorem nodup_putD {κ : Type} [DecidableEq κ] {kvs : List (κ × D)} {k : κ} {d : D} (h : (kvs.map (·.1)).Nodup) : ((putD kvs k d).map (·.1)).Nodup := by
  rw [keys_putD]
  split
  · exact h
  · rename_i hk
    refine List.nodup_append.mpr ⟨h, by simp, fun a ha b hb => ?_⟩
    rw [List.mem_singleton.mp hb]
    exact fun z => hk (z ▸ ha)
theorem mem_putD {κ : Type} [DecidableEq κ] {kvs : List (κ × D)} {k j : κ} {d : D} : j ∈ (putD kvs k d).map (·.1) ↔ j ∈ kvs.map (·.1) ∨ j = k := by
  rw [keys_putD]
  split
  · rename_i hk
    exact ⟨.inl, fun h => h.elim id fun e => e ▸ hk⟩
  · rw [List.mem_append, List.mem_singleton]
end TD
namespace K06
open PySem L2 TD
structure Ad where
  cBad : Addr
  cNot : Addr
  cTxt : Addr
  t_law_refuses : Addr
abbrev Pur (v : D) : Prop := pureN 60 v = true
theorem pureN_tup {n : Nat} {xs : List D} : pureN (n + 1) (.tup xs) = xs.all (pureN n) := rfl
theorem pureN_lst {n : Nat} {xs : List D} : pureN (n + 1) (.lst xs) = xs.all (pureN n) := rfl
theorem pur_tup {xs : List D} (h : Pur (.tup xs)) : ∀ x ∈ xs, Pur x := by
  intro x hx
  have h2 : xs.all (pureN 59) = true := h
  rw [List.all_eq_true] at h2
  exact pureN_mono (by omega : 59 ≤ 60) (h2 x hx)
def tyP : D → String
  | .non => "NoneType"
  | .bl _ => "bool"
  | .int _ => "int"
  | .str _ => "str"
  | .tup _ => "tuple"
  | _ => "list"
theorem tyD_pur {G : GH} {v : D} (h : Pur v) : tyD G v = some (tyP v) := by
  cases v <;> first | rfl | (unfold Pur pureN at h; cases h)
theorem m_int : ("int" ∈ tyNames) = True := by simp [tyNames]
theorem m_bool : ("bool" ∈ tyNames) = True := by simp [tyNames]
theorem m_tuple : ("tuple" ∈ tyNames) = True := by simp [tyNames]

/-! ### values -/
def isIn (v : D) (lo hi : Int) : Bool := match v with
  | .int i => decide (lo ≤ i) && decide (i ≤ hi)
  | _ => false
def sp_is_in (A : Ad) : SpD := fun zs G Q _ => match zs with
  | [v, .int lo, .int hi] => Pur v ∧ Q (.bl (isIn v lo hi)) G
  | _ => False
theorem len_is_in {A : Ad} {zs : List D} {G : GH} {Q : DK} {x : XD} (h : sp_is_in A zs G Q x) : zs.length = 3 := by
  unfold sp_is_in at h
  split at h <;> first | rfl | exact h.elim
def ds_is_in (A : Ad) : DS := dRet (dAndV (dCB rdIsi (dCons (dVar 0) (dCons (dC (.ty "int")) dNil))) (dAndV (dNotV (dCB rdIsi (dCons (dVar 0) (dCons (dC (.ty "bool")) dNil)))) (dChain rdLe rdLe (dVar 1) (dVar 0) (dVar 2))))
def N_is_in : List PySem.Str := ["value", "low", "high"]
theorem read_is_in {A : Ad} {zs : List D} {G : GH} {Q : DK} {x : XD} (h : sp_is_in A zs G Q x) : ds_is_in A { nx := fun _ G' => Q .non G', rt := Q, xx := fun _ => x } (dstart N_is_in zs) G := by
  unfold sp_is_in at h
  split at h
  · rename_i v lo hi
    obtain ⟨hp, q⟩ := h
    unfold N_is_in ds_is_in
    simp only [dRet, dRetN, dSeq, dAsg, dDrop, dIfS, dNext, dBreak, dCont, dPar, dSetL, dSetD, dFor, dVar, dC, dOp, dAndV, dOrV, dNotV, dAnd, dOr, dNot, dIf, dTest, dChain, dNil, dCons, dTup, dLst, dLstM, dStar, dNeg, dCB, dCall, dCallK, dMthT, dMth0, dLc, dYes, dISeq, dIStr, dIEnum, dIZip, dIRng1, dIRng2, dSl, dPart, dNoPart, dRaise, dDisp1, dNewD, dRevL, dRevT, dSortSet, dSortSetL, dIRng3, dGet2, dIKeys, dNewT, dSetT, dLstRg, dPar3, dLamA, dLamB, gdName, gdTup, gdCons, gdNil, dstart, dwipe, dAug, rdInt, rdSub, rdLt, rdLe, rdGt, rdGe, rdFdiv, rdMod, rdPow, at0, at1, at2, i30, i31, i32, set0, set1, set2, MO.lst.injEq, gup_same, gup_gup, ad_ii, ad_ss, ad_tt, ad_ll, mu_ii, mu_li, mu_ti, ix_t, ix_l, ix_s, ix_r, ix_w, ln_t, ln_l, ln_s, ln_w, ln_r, sr_t, sr_l, sr_s, sr_r, sl_t, sl_l, sl_s, sl_r, sl_w, tu_t, tu_l, tu_r, li_t, li_l, li_r, lm_t, lm_l, mx2, mn2, ab1, in1, is2, rdIsB, rdNotB, rdIsN, rdNotN, TD.isNon, List.map_cons, List.map_nil, List.length_cons, List.length_nil, List.replicate_succ, List.replicate_zero, List.cons_append, List.nil_append, List.append_nil, Nat.zero_add, Nat.reduceAdd, Nat.reduceSub, Nat.sub_self, Nat.add_sub_cancel, List.getElem?_cons_zero, List.getElem?_cons_succ, List.getElem?_nil, List.set_cons_zero, List.set_cons_succ, List.set_nil, Option.some.injEq, D.int.injEq, D.bl.injEq, D.str.injEq, D.ref.injEq, D.ty.injEq, D.tup.injEq, D.lst.injEq, List.cons.injEq, and_true, true_and, ex_two, ex_two', exists_eq_left', exists_eq_left, exists_and_left, exists_and_right, exists_const, exists_eq_right, exists_eq_right', Bool.not_true, Bool.not_false, if_true, if_false, Bool.false_eq_true, reduceCtorEq, false_and, and_false, decide_true, decide_false, tyD_pur hp, m_int, m_bool]
    cases v with
    | int i =>
      simp only [tyP, isiB, isIn] at q ⊢
      by_cases c : lo ≤ i <;> simp [c] at q ⊢ <;> exact q
    | bl b => simpa [tyP, isiB, isIn] using q
    | _ => first | (simpa [tyP, isiB, isIn] using q) | (simp [Pur, pureN] at hp)
  · exact h.elim

theorem dBls_of_map {α : Type} (f : α → Bool) (l : List α) : dBls (l.map fun a => D.bl (f a)) = some (l.map f) := by
  have := dBls_map (l.map f)
  rw [List.map_map] at this
  exact this
theorem all_map_id {α : Type} (f : α → Bool) (l : List α) : (l.map f).all id = l.all f := by
  rw [List.all_map]; rfl

def asc : List Int → Bool
  | a :: b :: r => decide (a < b) && asc (b :: r)
  | _ => true
def intsD (ns : List Int) : D := .tup (ns.map .int)

theorem cutX_1 {α : Type} (xs : List α) : cutX xs (some 1) none = xs.drop 1 := by
  unfold cutX
  have e : HT.sIx xs.length 0 (some (1 : Int)) = min 1 xs.length := HT.sIx_nat xs.length 0 1
  rw [e, HT.sIx_none]
  cases xs with
  | nil => rfl
  | cons a r =>
    have e1 : min 1 (a :: r).length = 1 := by simp
    rw [e1, List.drop_one, List.tail_cons, List.length_cons, Nat.add_sub_cancel, List.take_length]
theorem zip_asc (l : List (Int × Int)) : dBls ((l.map fun p => D.tup [.int p.1, .int p.2]).map fun d => match d with | .tup [.int a, .int b] => D.bl (decide (a < b)) | _ => .non) = some (l.map fun p => decide (p.1 < p.2)) := by
  rw [List.map_map]
  exact dBls_of_map _ l
theorem asc_all : ∀ ns : List Int, ((List.zip ns (ns.drop 1)).map fun p => decide (p.1 < p.2)).all id = asc ns
  | [] => rfl
  | [_] => rfl
  | a :: b :: r => by
    have ih := asc_all (b :: r)
    simp only [List.drop_one, List.tail_cons, List.zip_cons_cons, List.map_cons, List.all_cons, id] at ih ⊢
    rw [asc, ← ih]

def sp_demand (A : Ad) : SpD := fun zs G Q x => match zs with
  | [.bl b, .str s] => if b = true then Q .non G else x A.cBad [("name", .str s)] G
  | _ => False
theorem len_demand {A : Ad} {zs : List D} {G : GH} {Q : DK} {x : XD} (h : sp_demand A zs G Q x) : zs.length = 2 := by
  unfold sp_demand at h
  split at h <;> first | rfl | exact h.elim
def ds_demand (A : Ad) : DS := dIfS (dNot (dTest (dVar 0))) (dRaise A.cBad (ErrX.EF.fld .name) (dVar 1)) dNext
def N_demand : List PySem.Str := ["is_good", "name"]
theorem read_demand {A : Ad} {zs : List D} {G : GH} {Q : DK} {x : XD} (h : sp_demand A zs G Q x) : ds_demand A { nx := fun _ G' => Q .non G', rt := Q, xx := fun _ => x } (dstart N_demand zs) G := by
  unfold sp_demand at h
  split at h
  · rename_i b s
    unfold N_demand ds_demand
    simp only [dRet, dRetN, dSeq, dAsg, dDrop, dIfS, dNext, dBreak, dCont, dPar, dSetL, dSetD, dFor, dVar, dC, dOp, dAndV, dOrV, dNotV, dAnd, dOr, dNot, dIf, dTest, dChain, dNil, dCons, dTup, dLst, dLstM, dStar, dNeg, dCB, dCall, dCallK, dMthT, dMth0, dLc, dYes, dISeq, dIStr, dIEnum, dIZip, dIRng1, dIRng2, dSl, dPart, dNoPart, dRaise, dDisp1, dNewD, dRevL, dRevT, dSortSet, dSortSetL, dIRng3, dGet2, dIKeys, dNewT, dSetT, dLstRg, dPar3, dLamA, dLamB, gdName, gdTup, gdCons, gdNil, dstart, dwipe, dAug, rdInt, rdSub, rdLt, rdLe, rdGt, rdGe, rdFdiv, rdMod, rdPow, at0, at1, at2, i30, i31, i32, set0, set1, set2, MO.lst.injEq, gup_same, gup_gup, ad_ii, ad_ss, ad_tt, ad_ll, mu_ii, mu_li, mu_ti, ix_t, ix_l, ix_s, ix_r, ix_w, ln_t, ln_l, ln_s, ln_w, ln_r, sr_t, sr_l, sr_s, sr_r, sl_t, sl_l, sl_s, sl_r, sl_w, tu_t, tu_l, tu_r, li_t, li_l, li_r, lm_t, lm_l, mx2, mn2, ab1, in1, is2, rdIsB, rdNotB, rdIsN, rdNotN, TD.isNon, List.map_cons, List.map_nil, List.length_cons, List.length_nil, List.replicate_succ, List.replicate_zero, List.cons_append, List.nil_append, List.append_nil, Nat.zero_add, Nat.reduceAdd, Nat.reduceSub, Nat.sub_self, Nat.add_sub_cancel, List.getElem?_cons_zero, List.getElem?_cons_succ, List.getElem?_nil, List.set_cons_zero, List.set_cons_succ, List.set_nil, Option.some.injEq, D.int.injEq, D.bl.injEq, D.str.injEq, D.ref.injEq, D.ty.injEq, D.tup.injEq, D.lst.injEq, List.cons.injEq, and_true, true_and, ex_two, ex_two', exists_eq_left', exists_eq_left, exists_and_left, exists_and_right, exists_const, exists_eq_right, exists_eq_right', Bool.not_true, Bool.not_false, if_true, if_false, Bool.false_eq_true, reduceCtorEq, false_and, and_false, decide_true, decide_false]
    cases b <;> simpa [ErrX.EF.fld] using h
  · exact h.elim

def Ext (G G' : GH) : Prop := ∀ b m, G b = some m → G' b = some m
theorem Ext.refl (G : GH) : Ext G G := fun _ _ h => h
theorem Ext.trans {G G1 G2 : GH} (a : Ext G G1) (b : Ext G1 G2) : Ext G G2 := fun c m h => b c m (a c m h)
theorem Ext.new {G : GH} {p : Addr} {m : MO} (h : G p = none) : Ext G (gup G p m) := fun b n hb => by
  rw [gup_ne (fun z => by rw [z, h] at hb; cases hb)]; exact hb
abbrev Rfs (A : Ad) (x : XD) (G : GH) (s : PySem.Str) : Prop := x A.cBad [("name", .str s)] G

theorem eq_pur {v u : D} {G : GH} {Q : DK} (h1 : Pur v) (h2 : Pur u) (q : Q (.bl (deq v u)) G) : rdEq v u G Q := ⟨60, Nat.le_refl _, h1, h2, q⟩
theorem ne_pur {v u : D} {G : GH} {Q : DK} (h1 : Pur v) (h2 : Pur u) (q : Q (.bl (!deq v u)) G) : rdNe v u G Q := ⟨60, Nat.le_refl _, h1, h2, q⟩

/-! ### the dice -/
def DiceL (m : Nat) (l : List D) : Prop := ∃ d0 d1 d2 : Int, l = [.int d0, .int d1, .int d2] ∧ 0 ≤ d0 ∧ 0 ≤ d1 ∧ 0 ≤ d2 ∧ d2 ≤ m
def Dc (G : GH) (a : Addr) (m : Nat) : Prop := ∃ l, G a = some (.lst l) ∧ DiceL m l
/-- all that is told but the dice at a stays, the dice were rolled up to m times -/
def Upd (a : Addr) (m : Nat) (G G' : GH) : Prop := (∀ b μ, b ≠ a → G b = some μ → G' b = some μ) ∧ Dc G' a m
theorem DiceL.mono {m n : Nat} {l : List D} (h : DiceL m l) (hl : m ≤ n) : DiceL n l := by
  obtain ⟨d0, d1, d2, e, h0, h1, h2, h3⟩ := h
  exact ⟨d0, d1, d2, e, h0, h1, h2, by omega⟩
theorem Upd.refl {a : Addr} {m : Nat} {G : GH} (h : Dc G a m) : Upd a m G G := ⟨fun _ _ _ h => h, h⟩
theorem Upd.mono {a : Addr} {m n : Nat} {G G' : GH} (h : Upd a m G G') (hl : m ≤ n) : Upd a n G G' := ⟨h.1, let ⟨l, g, d⟩ := h.2; ⟨l, g, d.mono hl⟩⟩
theorem Upd.trans {a : Addr} {m n : Nat} {G G1 G2 : GH} (h : Upd a m G G1) (h2 : Upd a n G1 G2) : Upd a n G G2 := ⟨fun b μ hb hg => h2.1 b μ hb (h.1 b μ hb hg), h2.2⟩
theorem Upd.gup {a : Addr} {m n : Nat} {G G1 : GH} {l : List D} (h : Upd a m G G1) (d : DiceL n l) : Upd a n G (gup G1 a (.lst l)) := ⟨fun b μ hb hg => by rw [gup_ne hb]; exact h.1 b μ hb hg, l, gup_same, d⟩
theorem Upd.ext {a : Addr} {m : Nat} {G G1 G2 : GH} (h : Upd a m G G1) (e : Ext G1 G2) : Upd a m G G2 := ⟨fun b μ hb hg => e b μ (h.1 b μ hb hg), let ⟨l, g, d⟩ := h.2; ⟨l, e _ _ g, d⟩⟩
def sp__law_dice (A : Ad) : SpD := fun zs G Q _ => match zs with
  | [.scr ns, .int k] => ns.length ≤ 63 ∧ 0 ≤ k ∧ k ≤ 63 ∧ ∀ p l, G p = none → DiceL 0 l → Q (.ref p) (gup G p (.lst l))
  | _ => False
theorem len__law_dice {A : Ad} {zs : List D} {G : GH} {Q : DK} {x : XD} (h : sp__law_dice A zs G Q x) : zs.length = 2 := by
  unfold sp__law_dice at h
  split at h <;> first | rfl | exact h.elim
def ds__law_dice (A : Ad) : DS := dSeq (dAsg (dIf (dTest (dOp rdLt (dVar 1) (dCB rdLen (dCons (dVar 0) dNil)))) (dOp rdIx (dVar 0) (dVar 1)) (dOp rdAdd (dOp rdMul (dC (.int 733)) (dVar 1)) (dC (.int 29)))) (gdName 2)) (dSeq (dAsg (dOp rdAdd (dC (.int 910003)) (dOp rdMul (dC (.int 7907)) (dVar 1))) (gdName 3)) (dSeq (dFor (dISeq (dOp rdAdd (dSl (dVar 0) dNoPart (dPart (dC (.int 6)))) (dLst (dCons (dVar 2) dNil)))) (gdName 4) (dAsg (dOp rdMod (dCB rdInt1 (dCons (dOp rdAdd (dOp rdMul (dVar 3) (dC (.int 48271))) (dOp rdMod (dCB rdInt1 (dCons (dVar 4) dNil)) (dC (.int 2147480009)))) dNil)) (dC (.int 2147480009))) (gdName 3))) (dRet (dLstM (dCons (dIf (dOr (dTest (dOp rdLt (dVar 2) (dC (.int 0)))) (dTest (dOp rdGe (dVar 2) (dOp rdPow (dC (.int 10)) (dC (.int 16)))))) (dCB rdAbs (dCons (dVar 2) dNil)) (dC (.int 0))) (dCons (dVar 3) (dCons (dC (.int 0)) dNil)))))))
def N__law_dice : List PySem.Str := ["script", "spot", "own", "mixed", "cell"]
theorem cmul_r {i j : Int} (h1 : -(2 ^ 64) < j) (h2 : j < 2 ^ 64) : CMul i j := .inr ⟨h1, h2⟩
theorem read__law_dice {A : Ad} {zs : List D} {G : GH} {Q : DK} {x : XD} (h : sp__law_dice A zs G Q x) : ds__law_dice A { nx := fun _ G' => Q .non G', rt := Q, xx := fun _ => x } (dstart N__law_dice zs) G := by
  unfold sp__law_dice at h
  split at h
  · rename_i ns k
    obtain ⟨hl, h0, h1, q⟩ := h
    unfold N__law_dice ds__law_dice
    -- what follows when own is known
    have main : ∀ own : Int, dLoop (fun _ => True) (gdName 4) (dAsg (dOp rdMod (dCB rdInt1 (dCons (dOp rdAdd (dOp rdMul (dVar 3) (dC (.int 48271))) (dOp rdMod (dCB rdInt1 (dCons (dVar 4) dNil)) (dC (.int 2147480009)))) dNil)) (dC (.int 2147480009))) (gdName 3))
        { nx := dRet (dLstM (dCons (dIf (dOr (dTest (dOp rdLt (dVar 2) (dC (.int 0)))) (dTest (dOp rdGe (dVar 2) (dOp rdPow (dC (.int 10)) (dC (.int 16)))))) (dCB rdAbs (dCons (dVar 2) dNil)) (dC (.int 0))) (dCons (dVar 3) (dCons (dC (.int 0)) dNil)))) { nx := fun x G' => Q D.non G', rt := Q, xx := fun _ => x }, rt := Q, xx := fun _ => x }
        (((cutX ns none (some 6)) ++ [own]).map D.int) [some (.scr ns), some (.int k), some (.int own), some (.int (910003 + 7907 * k)), none] G := fun own => by
      refine dLoop_inv (fun i ρ G' => ∃ mx o4, ρ = [some (.scr ns), some (.int k), some (.int own), some (.int mx), o4] ∧ 0 ≤ mx ∧ G' = G) 0 ⟨_, none, rfl, by omega, rfl⟩ (fun _ _ _ _ _ _ => trivial) (fun i d ρ G' hi hI K1 hK => ?_) (fun ρ G' hI => ?_)
      · obtain ⟨mx, o4, rfl, hm, rfl⟩ := hI
        rw [List.getElem?_map] at hi
        obtain ⟨c, _, rfl⟩ := Option.map_eq_some_iff.mp hi
        simp only [dRet, dRetN, dSeq, dAsg, dDrop, dIfS, dNext, dBreak, dCont, dPar, dSetL, dSetD, dFor, dVar, dC, dOp, dAndV, dOrV, dNotV, dAnd, dOr, dNot, dIf, dTest, dChain, dNil, dCons, dTup, dLst, dLstM, dStar, dNeg, dCB, dCall, dCallK, dMthT, dMth0, dLc, dYes, dISeq, dIStr, dIEnum, dIZip, dIRng1, dIRng2, dSl, dPart, dNoPart, dRaise, dDisp1, dNewD, dRevL, dRevT, dSortSet, dSortSetL, dIRng3, dGet2, dIKeys, dNewT, dSetT, dLstRg, dPar3, dLamA, dLamB, gdName, gdTup, gdCons, gdNil, dstart, dwipe, dAug, rdInt, rdSub, rdLt, rdLe, rdGt, rdGe, rdFdiv, rdMod, rdPow, at0, at1, at2, i30, i31, i32, set0, set1, set2, MO.lst.injEq, gup_same, gup_gup, ad_ii, ad_ss, ad_tt, ad_ll, mu_ii, mu_li, mu_ti, ix_t, ix_l, ix_s, ix_r, ix_w, ln_t, ln_l, ln_s, ln_w, ln_r, sr_t, sr_l, sr_s, sr_r, sl_t, sl_l, sl_s, sl_r, sl_w, tu_t, tu_l, tu_r, li_t, li_l, li_r, lm_t, lm_l, mx2, mn2, ab1, in1, is2, rdIsB, rdNotB, rdIsN, rdNotN, TD.isNon, List.map_cons, List.map_nil, List.length_cons, List.length_nil, List.replicate_succ, List.replicate_zero, List.cons_append, List.nil_append, List.append_nil, Nat.zero_add, Nat.reduceAdd, Nat.reduceSub, Nat.sub_self, Nat.add_sub_cancel, List.getElem?_cons_zero, List.getElem?_cons_succ, List.getElem?_nil, List.set_cons_zero, List.set_cons_succ, List.set_nil, Option.some.injEq, D.int.injEq, D.bl.injEq, D.str.injEq, D.ref.injEq, D.ty.injEq, D.tup.injEq, D.lst.injEq, List.cons.injEq, and_true, true_and, ex_two, ex_two', exists_eq_left', exists_eq_left, exists_and_left, exists_and_right, exists_const, exists_eq_right, exists_eq_right', Bool.not_true, Bool.not_false, if_true, if_false, Bool.false_eq_true, reduceCtorEq, false_and, and_false, decide_true, decide_false]
        exact ⟨cmul_r (by omega) (by omega), by omega, by omega, hK _ _ ⟨_, _, rfl, by omega, rfl⟩⟩
      · obtain ⟨mx, o4, rfl, hm, rfl⟩ := hI
        simp only [dRet, dRetN, dSeq, dAsg, dDrop, dIfS, dNext, dBreak, dCont, dPar, dSetL, dSetD, dFor, dVar, dC, dOp, dAndV, dOrV, dNotV, dAnd, dOr, dNot, dIf, dTest, dChain, dNil, dCons, dTup, dLst, dLstM, dStar, dNeg, dCB, dCall, dCallK, dMthT, dMth0, dLc, dYes, dISeq, dIStr, dIEnum, dIZip, dIRng1, dIRng2, dSl, dPart, dNoPart, dRaise, dDisp1, dNewD, dRevL, dRevT, dSortSet, dSortSetL, dIRng3, dGet2, dIKeys, dNewT, dSetT, dLstRg, dPar3, dLamA, dLamB, gdName, gdTup, gdCons, gdNil, dstart, dwipe, dAug, rdInt, rdSub, rdLt, rdLe, rdGt, rdGe, rdFdiv, rdMod, rdPow, at0, at1, at2, i30, i31, i32, set0, set1, set2, MO.lst.injEq, gup_same, gup_gup, ad_ii, ad_ss, ad_tt, ad_ll, mu_ii, mu_li, mu_ti, ix_t, ix_l, ix_s, ix_r, ix_w, ln_t, ln_l, ln_s, ln_w, ln_r, sr_t, sr_l, sr_s, sr_r, sl_t, sl_l, sl_s, sl_r, sl_w, tu_t, tu_l, tu_r, li_t, li_l, li_r, lm_t, lm_l, mx2, mn2, ab1, in1, is2, rdIsB, rdNotB, rdIsN, rdNotN, TD.isNon, List.map_cons, List.map_nil, List.length_cons, List.length_nil, List.replicate_succ, List.replicate_zero, List.cons_append, List.nil_append, List.append_nil, Nat.zero_add, Nat.reduceAdd, Nat.reduceSub, Nat.sub_self, Nat.add_sub_cancel, List.getElem?_cons_zero, List.getElem?_cons_succ, List.getElem?_nil, List.set_cons_zero, List.set_cons_succ, List.set_nil, Option.some.injEq, D.int.injEq, D.bl.injEq, D.str.injEq, D.ref.injEq, D.ty.injEq, D.tup.injEq, D.lst.injEq, List.cons.injEq, and_true, true_and, ex_two, ex_two', exists_eq_left', exists_eq_left, exists_and_left, exists_and_right, exists_const, exists_eq_right, exists_eq_right', Bool.not_true, Bool.not_false, if_true, if_false, Bool.false_eq_true, reduceCtorEq, false_and, and_false, decide_true, decide_false]
        have fin : ∀ d0 : Int, 0 ≤ d0 → (3 ≤ sizeLine ∧ ∀ p, G' p = none → Q (.ref p) (gup G' p (.lst [.int d0, .int mx, .int 0]))) := fun d0 hd => ⟨sz _ (by omega), fun p hp => q p _ hp ⟨d0, mx, 0, rfl, hd, hm, by omega, by omega⟩⟩
        by_cases c1 : own < 0
        · simp only [c1, decide_true, if_true]
          exact fin _ (by omega)
        · simp only [c1, decide_false, Bool.false_eq_true, if_false]
          refine ⟨⟨by omega, by omega, by decide⟩, ?_⟩
          by_cases c2 : (10 : Int) ^ (16 : Int).toNat ≤ own
          · simp only [c2, decide_true, if_true]
            exact fin _ (by omega)
          · simp only [c2, decide_false, Bool.false_eq_true, if_false]
            exact fin 0 (by omega)
    have hcut : (cutX ns none (some 6)).length ≤ 63 := by
      unfold cutX
      rw [List.length_take, List.length_drop]
      omega
    simp only [dRet, dRetN, dSeq, dAsg, dDrop, dIfS, dNext, dBreak, dCont, dPar, dSetL, dSetD, dFor, dVar, dC, dOp, dAndV, dOrV, dNotV, dAnd, dOr, dNot, dIf, dTest, dChain, dNil, dCons, dTup, dLst, dLstM, dStar, dNeg, dCB, dCall, dCallK, dMthT, dMth0, dLc, dYes, dISeq, dIStr, dIEnum, dIZip, dIRng1, dIRng2, dSl, dPart, dNoPart, dRaise, dDisp1, dNewD, dRevL, dRevT, dSortSet, dSortSetL, dIRng3, dGet2, dIKeys, dNewT, dSetT, dLstRg, dPar3, dLamA, dLamB, gdName, gdTup, gdCons, gdNil, dstart, dwipe, dAug, rdInt, rdSub, rdLt, rdLe, rdGt, rdGe, rdFdiv, rdMod, rdPow, at0, at1, at2, i30, i31, i32, set0, set1, set2, MO.lst.injEq, gup_same, gup_gup, ad_ii, ad_ss, ad_tt, ad_ll, mu_ii, mu_li, mu_ti, ix_t, ix_l, ix_s, ix_r, ix_w, ln_t, ln_l, ln_s, ln_w, ln_r, sr_t, sr_l, sr_s, sr_r, sl_t, sl_l, sl_s, sl_r, sl_w, tu_t, tu_l, tu_r, li_t, li_l, li_r, lm_t, lm_l, mx2, mn2, ab1, in1, is2, rdIsB, rdNotB, rdIsN, rdNotN, TD.isNon, List.map_cons, List.map_nil, List.length_cons, List.length_nil, List.replicate_succ, List.replicate_zero, List.cons_append, List.nil_append, List.append_nil, Nat.zero_add, Nat.reduceAdd, Nat.reduceSub, Nat.sub_self, Nat.add_sub_cancel, List.getElem?_cons_zero, List.getElem?_cons_succ, List.getElem?_nil, List.set_cons_zero, List.set_cons_succ, List.set_nil, Option.some.injEq, D.int.injEq, D.bl.injEq, D.str.injEq, D.ref.injEq, D.ty.injEq, D.tup.injEq, D.lst.injEq, List.cons.injEq, and_true, true_and, ex_two, ex_two', exists_eq_left', exists_eq_left, exists_and_left, exists_and_right, exists_const, exists_eq_right, exists_eq_right', Bool.not_true, Bool.not_false, if_true, if_false, Bool.false_eq_true, reduceCtorEq, false_and, and_false, decide_true, decide_false]
    by_cases c : k < (ns.length : Int)
    · simp only [c, decide_true, if_true]
      have hk : k.toNat < ns.length := by omega
      obtain ⟨j, rfl⟩ : ∃ j : Nat, k = (j : Int) := ⟨k.toNat, by omega⟩
      have hj : j < ns.length := by omega
      refine ⟨ns[j], atI_nat (List.getElem?_eq_getElem hj), cmul_r (by omega) (by omega), sz _ (by omega), ?_, ?_⟩
      · rw [List.length_map]; exact sz _ (by omega)
      · have := main ns[j]
        rw [List.map_append] at this
        exact this
    · simp only [c, decide_false, Bool.false_eq_true, if_false]
      refine ⟨cmul_r (by omega) (by omega), cmul_r (by omega) (by omega), sz _ (by omega), ?_, ?_⟩
      · rw [List.length_map]; exact sz _ (by omega)
      · have := main (733 * k + 29)
        rw [List.map_append] at this
        exact this
  · exact h.elim
def sp__law_roll (A : Ad) : SpD := fun zs G Q _ => match zs with
  | [.ref a, .int total] => ∃ m l, G a = some (.lst l) ∧ DiceL m l ∧ m ≤ 1000000 ∧ 0 < total ∧ total < 1000000 ∧ ∀ r l', 0 ≤ r → r < total → DiceL (m + 1) l' → Q (.int r) (gup G a (.lst l'))
  | _ => False
theorem len__law_roll {A : Ad} {zs : List D} {G : GH} {Q : DK} {x : XD} (h : sp__law_roll A zs G Q x) : zs.length = 2 := by
  unfold sp__law_roll at h
  split at h <;> first | rfl | exact h.elim
def ds__law_roll (A : Ad) : DS := dSeq (dIfS (dTest (dOp rdGt (dOp rdIx (dVar 0) (dC (.int 0))) (dC (.int 0)))) (dSeq (dAsg (dOp rdMod (dCB rdInt1 (dCons (dOp rdIx (dVar 0) (dC (.int 0))) dNil)) (dVar 1)) (gdName 2)) (dSeq (dSetL (dOp rdFdiv (dOp rdIx (dVar 0) (dC (.int 0))) (dVar 1)) (dVar 0) (dC (.int 0))) (dRet (dVar 2)))) dNext) (dSeq (dSetL (dOp rdAdd (dOp rdIx (dVar 0) (dC (.int 2))) (dC (.int 1))) (dVar 0) (dC (.int 2))) (dSeq (dSetL (dOp rdMod (dCB rdInt1 (dCons (dOp rdAdd (dOp rdAdd (dOp rdMul (dOp rdIx (dVar 0) (dC (.int 1))) (dC (.int 52501))) (dOp rdMul (dOp rdMul (dOp rdIx (dVar 0) (dC (.int 2))) (dOp rdIx (dVar 0) (dC (.int 2)))) (dC (.int 1009)))) (dC (.int 77))) dNil)) (dC (.int 2147480009))) (dVar 0) (dC (.int 1))) (dRet (dOp rdMod (dCB rdInt1 (dCons (dOp rdFdiv (dOp rdIx (dVar 0) (dC (.int 1))) (dC (.int 211))) dNil)) (dVar 1)))))
def N__law_roll : List PySem.Str := ["dice", "total", "found"]
theorem ixN3_0 {α : Type} (a b c : α) : ixN [a, b, c].length 0 = some 0 := rfl
theorem ixN3_1 {α : Type} (a b c : α) : ixN [a, b, c].length 1 = some 1 := rfl
theorem ixN3_2 {α : Type} (a b c : α) : ixN [a, b, c].length 2 = some 2 := rfl
theorem read__law_roll {A : Ad} {zs : List D} {G : GH} {Q : DK} {x : XD} (h : sp__law_roll A zs G Q x) : ds__law_roll A { nx := fun _ G' => Q .non G', rt := Q, xx := fun _ => x } (dstart N__law_roll zs) G := by
  unfold sp__law_roll at h
  split at h
  · rename_i a total
    obtain ⟨m, l, g, ⟨d0, d1, d2, rfl, h0, h1, h2, h3⟩, hm, ht, ht2, q⟩ := h
    unfold N__law_roll ds__law_roll
    simp only [dRet, dRetN, dSeq, dAsg, dDrop, dIfS, dNext, dBreak, dCont, dPar, dSetL, dSetD, dFor, dVar, dC, dOp, dAndV, dOrV, dNotV, dAnd, dOr, dNot, dIf, dTest, dChain, dNil, dCons, dTup, dLst, dLstM, dStar, dNeg, dCB, dCall, dCallK, dMthT, dMth0, dLc, dYes, dISeq, dIStr, dIEnum, dIZip, dIRng1, dIRng2, dSl, dPart, dNoPart, dRaise, dDisp1, dNewD, dRevL, dRevT, dSortSet, dSortSetL, dIRng3, dGet2, dIKeys, dNewT, dSetT, dLstRg, dPar3, dLamA, dLamB, gdName, gdTup, gdCons, gdNil, dstart, dwipe, dAug, rdInt, rdSub, rdLt, rdLe, rdGt, rdGe, rdFdiv, rdMod, rdPow, at0, at1, at2, i30, i31, i32, set0, set1, set2, MO.lst.injEq, gup_same, gup_gup, ad_ii, ad_ss, ad_tt, ad_ll, mu_ii, mu_li, mu_ti, ix_t, ix_l, ix_s, ix_r, ix_w, ln_t, ln_l, ln_s, ln_w, ln_r, sr_t, sr_l, sr_s, sr_r, sl_t, sl_l, sl_s, sl_r, sl_w, tu_t, tu_l, tu_r, li_t, li_l, li_r, lm_t, lm_l, mx2, mn2, ab1, in1, is2, rdIsB, rdNotB, rdIsN, rdNotN, TD.isNon, List.map_cons, List.map_nil, List.length_cons, List.length_nil, List.replicate_succ, List.replicate_zero, List.cons_append, List.nil_append, List.append_nil, Nat.zero_add, Nat.reduceAdd, Nat.reduceSub, Nat.sub_self, Nat.add_sub_cancel, List.getElem?_cons_zero, List.getElem?_cons_succ, List.getElem?_nil, List.set_cons_zero, List.set_cons_succ, List.set_nil, Option.some.injEq, D.int.injEq, D.bl.injEq, D.str.injEq, D.ref.injEq, D.ty.injEq, D.tup.injEq, D.lst.injEq, List.cons.injEq, and_true, true_and, ex_two, ex_two', exists_eq_left', exists_eq_left, exists_and_left, exists_and_right, exists_const, exists_eq_right, exists_eq_right', Bool.not_true, Bool.not_false, if_true, if_false, Bool.false_eq_true, reduceCtorEq, false_and, and_false, decide_true, decide_false, g]
    by_cases c : 0 < d0
    · simp only [c, decide_true, if_true]
      refine ⟨ht, ⟨ht, by omega⟩, ?_⟩
      exact q _ _ (Int.emod_nonneg _ (by omega)) (Int.emod_lt_of_pos _ ht) ⟨_, _, _, rfl, Int.ediv_nonneg h0 (by omega), h1, h2, by omega⟩
    · simp only [c, decide_false, Bool.false_eq_true, if_false]
      have hz : d0 = 0 := by omega
      have e1 : (d2 + 1 : Int) ≤ 1000002 := by omega
      have e0 : 0 < (d2 + 1 : Int) := by omega
      have sq : 0 ≤ (d2 + 1) * (d2 + 1) := Int.mul_nonneg (by omega) (by omega)
      have sq2 : (d2 + 1) * (d2 + 1) ≤ 1000002 * 1000002 := Int.mul_le_mul e1 e1 (by omega) (by omega)
      refine ⟨cmul_r (by omega) (by omega), cmul_r (by omega) (by omega), cmul_r (by omega) (by omega), by omega, ?_, ht, ?_⟩
      · have := Int.emod_lt_of_pos (d1 * 52501 + (d2 + 1) * (d2 + 1) * 1009) (b := 2147480009) (by omega)
        have := Int.emod_nonneg (d1 * 52501 + (d2 + 1) * (d2 + 1) * 1009) (b := 2147480009) (by omega)
        exact ⟨by omega, by omega⟩
      · exact q _ _ (Int.emod_nonneg _ (by omega)) (Int.emod_lt_of_pos _ ht) ⟨_, _, _, rfl, by omega, Int.emod_nonneg _ (by omega), by omega, by omega⟩
  · exact h.elim

theorem roll_of {A : Ad} {a : Addr} {total : Int} {G : GH} {Q : DK} {x : XD} {m : Nat} (h : Dc G a m) (hm : m ≤ 1000000) (ht : 0 < total) (ht2 : total < 1000000) (q : ∀ (r : Nat) G', (r : Int) < total → Upd a (m + 1) G G' → Q (.int r) G') : sp__law_roll A [.ref a, .int total] G Q x := by
  obtain ⟨l, g, d⟩ := h
  refine ⟨m, l, g, d, hm, ht, ht2, fun r l' h0 h1 hd => ?_⟩
  have := q r.toNat (gup G a (.lst l')) (by omega) ⟨fun b μ hb hg => by rw [gup_ne hb]; exact hg, l', gup_same, hd⟩
  rw [Int.toNat_of_nonneg h0] at this
  exact this
def sp__law_pick (A : Ad) : SpD := fun zs G Q _ => match zs with
  | [.ref a, .lst things] => ∃ m, Dc G a m ∧ m ≤ 1000000 ∧ 0 < things.length ∧ things.length < 1000000 ∧ ∀ z ∈ things, ∀ G', Upd a (m + 1) G G' → Q z G'
  | _ => False
theorem len__law_pick {A : Ad} {zs : List D} {G : GH} {Q : DK} {x : XD} (h : sp__law_pick A zs G Q x) : zs.length = 2 := by
  unfold sp__law_pick at h
  split at h <;> first | rfl | exact h.elim
def ds__law_pick (A : Ad) : DS := dRet (dOp rdIx (dVar 1) (dCall (sp__law_roll A) (dCons (dVar 0) (dCons (dCB rdLen (dCons (dVar 1) dNil)) dNil))))
def N__law_pick : List PySem.Str := ["dice", "things"]
theorem read__law_pick {A : Ad} {zs : List D} {G : GH} {Q : DK} {x : XD} (h : sp__law_pick A zs G Q x) : ds__law_pick A { nx := fun _ G' => Q .non G', rt := Q, xx := fun _ => x } (dstart N__law_pick zs) G := by
  unfold sp__law_pick at h
  split at h
  · rename_i a things
    obtain ⟨m, d, hm, h0, h1, q⟩ := h
    unfold N__law_pick ds__law_pick
    try simp only [dRet, dRetN, dSeq, dAsg, dDrop, dIfS, dNext, dBreak, dCont, dPar, dSetL, dSetD, dFor, dVar, dC, dOp, dAndV, dOrV, dNotV, dAnd, dOr, dNot, dIf, dTest, dChain, dNil, dCons, dTup, dLst, dLstM, dStar, dNeg, dCB, dCall, dCallK, dMthT, dMth0, dLc, dYes, dISeq, dIStr, dIEnum, dIZip, dIRng1, dIRng2, dSl, dPart, dNoPart, dRaise, dDisp1, dNewD, dRevL, dRevT, dSortSet, dSortSetL, dIRng3, dGet2, dIKeys, dNewT, dSetT, dLstRg, dPar3, dLamA, dLamB, gdName, gdTup, gdCons, gdNil, dstart, dwipe, dAug, rdInt, rdSub, rdLt, rdLe, rdGt, rdGe, rdFdiv, rdMod, rdPow, at0, at1, at2, i30, i31, i32, set0, set1, set2, MO.lst.injEq, gup_same, gup_gup, ad_ii, ad_ss, ad_tt, ad_ll, mu_ii, mu_li, mu_ti, ix_t, ix_l, ix_s, ix_r, ix_w, ln_t, ln_l, ln_s, ln_w, ln_r, sr_t, sr_l, sr_s, sr_r, sl_t, sl_l, sl_s, sl_r, sl_w, tu_t, tu_l, tu_r, li_t, li_l, li_r, lm_t, lm_l, mx2, mn2, ab1, in1, is2, rdIsB, rdNotB, rdIsN, rdNotN, TD.isNon, List.map_cons, List.map_nil, List.length_cons, List.length_nil, List.replicate_succ, List.replicate_zero, List.cons_append, List.nil_append, List.append_nil, Nat.zero_add, Nat.reduceAdd, Nat.reduceSub, Nat.sub_self, Nat.add_sub_cancel, List.getElem?_cons_zero, List.getElem?_cons_succ, List.getElem?_nil, List.set_cons_zero, List.set_cons_succ, List.set_nil, Option.some.injEq, D.int.injEq, D.bl.injEq, D.str.injEq, D.ref.injEq, D.ty.injEq, D.tup.injEq, D.lst.injEq, List.cons.injEq, and_true, true_and, ex_two, ex_two', exists_eq_left', exists_eq_left, exists_and_left, exists_and_right, exists_const, exists_eq_right, exists_eq_right', Bool.not_true, Bool.not_false, if_true, if_false, Bool.false_eq_true, reduceCtorEq, false_and, and_false, decide_true, decide_false]
    refine roll_of d hm (by omega) (by omega) fun r G' hr u => ?_
    try simp only [dRet, dRetN, dSeq, dAsg, dDrop, dIfS, dNext, dBreak, dCont, dPar, dSetL, dSetD, dFor, dVar, dC, dOp, dAndV, dOrV, dNotV, dAnd, dOr, dNot, dIf, dTest, dChain, dNil, dCons, dTup, dLst, dLstM, dStar, dNeg, dCB, dCall, dCallK, dMthT, dMth0, dLc, dYes, dISeq, dIStr, dIEnum, dIZip, dIRng1, dIRng2, dSl, dPart, dNoPart, dRaise, dDisp1, dNewD, dRevL, dRevT, dSortSet, dSortSetL, dIRng3, dGet2, dIKeys, dNewT, dSetT, dLstRg, dPar3, dLamA, dLamB, gdName, gdTup, gdCons, gdNil, dstart, dwipe, dAug, rdInt, rdSub, rdLt, rdLe, rdGt, rdGe, rdFdiv, rdMod, rdPow, at0, at1, at2, i30, i31, i32, set0, set1, set2, MO.lst.injEq, gup_same, gup_gup, ad_ii, ad_ss, ad_tt, ad_ll, mu_ii, mu_li, mu_ti, ix_t, ix_l, ix_s, ix_r, ix_w, ln_t, ln_l, ln_s, ln_w, ln_r, sr_t, sr_l, sr_s, sr_r, sl_t, sl_l, sl_s, sl_r, sl_w, tu_t, tu_l, tu_r, li_t, li_l, li_r, lm_t, lm_l, mx2, mn2, ab1, in1, is2, rdIsB, rdNotB, rdIsN, rdNotN, TD.isNon, List.map_cons, List.map_nil, List.length_cons, List.length_nil, List.replicate_succ, List.replicate_zero, List.cons_append, List.nil_append, List.append_nil, Nat.zero_add, Nat.reduceAdd, Nat.reduceSub, Nat.sub_self, Nat.add_sub_cancel, List.getElem?_cons_zero, List.getElem?_cons_succ, List.getElem?_nil, List.set_cons_zero, List.set_cons_succ, List.set_nil, Option.some.injEq, D.int.injEq, D.bl.injEq, D.str.injEq, D.ref.injEq, D.ty.injEq, D.tup.injEq, D.lst.injEq, List.cons.injEq, and_true, true_and, ex_two, ex_two', exists_eq_left', exists_eq_left, exists_and_left, exists_and_right, exists_const, exists_eq_right, exists_eq_right', Bool.not_true, Bool.not_false, if_true, if_false, Bool.false_eq_true, reduceCtorEq, false_and, and_false, decide_true, decide_false]
    have hr' : r < things.length := by omega
    exact ⟨_, atI_nat (List.getElem?_eq_getElem hr'), q _ (List.getElem_mem _) G' u⟩
  · exact h.elim
theorem pick_of {A : Ad} {a : Addr} {things : List D} {G : GH} {Q : DK} {x : XD} {m : Nat} (h : Dc G a m) (hm : m ≤ 1000000) (h0 : 0 < things.length) (h1 : things.length < 1000000) (q : ∀ z ∈ things, ∀ G', Upd a (m + 1) G G' → Q z G') : sp__law_pick A [.ref a, .lst things] G Q x := ⟨m, h, hm, h0, h1, q⟩

theorem rngD_get {lo : Int} {n i : Nat} {d : D} (h : (rngD lo n)[i]? = some d) : i < n ∧ d = .int (lo + (i : Nat)) := by
  unfold rngD at h
  rw [List.getElem?_map] at h
  by_cases hi : i < n
  · rw [List.getElem?_range hi] at h
    cases h
    exact ⟨hi, rfl⟩
  · rw [List.getElem?_eq_none (by rw [List.length_range]; omega)] at h
    cases h
theorem rngD_len (lo : Int) (n : Nat) : (rngD lo n).length = n := by unfold rngD; rw [List.length_map, List.length_range]
theorem rngD_mem {lo : Int} {n : Nat} {d : D} (h : d ∈ rngD lo n) : ∃ i : Nat, i < n ∧ d = .int (lo + (i : Nat)) := by
  unfold rngD at h
  obtain ⟨i, hi, rfl⟩ := List.mem_map.mp h
  exact ⟨i, List.mem_range.mp hi, rfl⟩

theorem deq_ii (a b : Int) : deq (.int a) (.int b) = (a == b) := by rw [deq]
theorem pur_int (i : Int) : Pur (.int i) := rfl

theorem deq_bb (a b : Bool) : deq (.bl a) (.bl b) = (a == b) := by rw [deq]
theorem pur_bl (b : Bool) : Pur (.bl b) := rfl
theorem deq_nil : deq (.lst []) (.lst []) = true := by simp [deq, deqs]
theorem filter_none {α : Type} (l : List α) : l.filter (fun _ => false) = [] := by simp

theorem and_sz {n : Nat} {p : Prop} (h : n ≤ 16777216) (q : p) : n ≤ sizeLine ∧ p := ⟨sz n h, q⟩

theorem pur_tupI {xs : List D} (h : ∀ x ∈ xs, pureN 59 x = true) : Pur (.tup xs) := by
  show xs.all (pureN 59) = true
  rw [List.all_eq_true]
  exact h
theorem pur_lstI {xs : List D} (h : ∀ x ∈ xs, pureN 59 x = true) : Pur (.lst xs) := by
  show xs.all (pureN 59) = true
  rw [List.all_eq_true]
  exact h

theorem pick1 {α : Type} (v : α) : pickK 0 1 [0] [] [v] = [v] := by simp [pickK]
theorem pick3 {α : Type} (u v w : α) : pickK 0 3 [2, 1, 0] [] [u, v, w] = [w, v, u] := by simp [pickK]

abbrev LE (Q : DK) (x : XD) : DEnds := { nx := fun _ G' => Q .non G', rt := Q, xx := fun _ => x }

theorem allInts_of : ∀ {xs : List D}, (∀ x ∈ xs, ∃ i : Int, x = .int i) → ∃ ns : List Int, xs = ns.map D.int
  | [], _ => ⟨[], rfl⟩
  | x :: xs, h => by
    obtain ⟨i, rfl⟩ := h x List.mem_cons_self
    obtain ⟨ns, rfl⟩ := allInts_of fun y hy => h y (List.mem_cons_of_mem _ hy)
    exact ⟨i :: ns, rfl⟩
theorem isIn_ok {v : D} {lo hi : Int} (h : isIn v lo hi = true) : ∃ i : Int, v = .int i ∧ lo ≤ i ∧ i ≤ hi := by
  cases v <;> simp [isIn] at h
  exact ⟨_, rfl, h.1, h.2⟩

theorem map_int_inj {a b : List Int} (h : a.map D.int = b.map D.int) : a = b := by
  induction a generalizing b with
  | nil => cases b with
    | nil => rfl
    | cons => cases h
  | cons x xs ih => cases b with
    | nil => cases h
    | cons y ys =>
      injection h with h1 h2
      cases h1
      rw [ih h2]

theorem toP_int (i : Int) : toP (.int i) = .int i := by unfold toP; rfl

theorem atI_map_nat {α β : Type} {f : α → β} {xs : List α} {i : Nat} {x : α} (h : xs[i]? = some x) : atI (xs.map f) (i : Int) = some (f x) :=
  atI_nat (by rw [List.getElem?_map, h]; rfl)

theorem asc_pw : ∀ {ns : List Int}, asc ns = true → ns.Pairwise (· < ·)
  | [], _ => List.Pairwise.nil
  | [a], _ => List.pairwise_singleton _ _
  | a :: b :: r, h => by
    simp only [asc, Bool.and_eq_true, decide_eq_true_eq] at h
    have ih := asc_pw h.2
    refine List.pairwise_cons.mpr ⟨fun x hx => ?_, ih⟩
    rcases List.mem_cons.mp hx with rfl | hx
    · exact h.1
    · have := (List.pairwise_cons.mp ih).1 x hx
      omega
theorem pw_asc : ∀ {ns : List Int}, ns.Pairwise (· < ·) → asc ns = true
  | [], _ => rfl
  | [a], _ => rfl
  | a :: b :: r, h => by
    obtain ⟨h1, h2⟩ := List.pairwise_cons.mp h
    simp only [asc, Bool.and_eq_true, decide_eq_true_eq]
    exact ⟨h1 b List.mem_cons_self, pw_asc h2⟩
theorem pw_uniq : ∀ {a b : List Int}, a.Pairwise (· < ·) → b.Pairwise (· < ·) → (∀ k, k ∈ a ↔ k ∈ b) → a = b
  | [], [], _, _, _ => rfl
  | [], y :: ys, _, _, h => by have := (h y).mpr List.mem_cons_self; cases this
  | x :: xs, [], _, _, h => by have := (h x).mp List.mem_cons_self; cases this
  | x :: xs, y :: ys, ha, hb, h => by
    obtain ⟨a1, a2⟩ := List.pairwise_cons.mp ha
    obtain ⟨b1, b2⟩ := List.pairwise_cons.mp hb
    have e : x = y := by
      rcases List.mem_cons.mp ((h x).mp List.mem_cons_self) with e | hx
      · exact e
      · rcases List.mem_cons.mp ((h y).mpr List.mem_cons_self) with e | hy
        · exact e.symm
        · have := b1 x hx
          have := a1 y hy
          omega
    subst e
    rw [pw_uniq a2 b2 fun k => ?_]
    constructor
    · intro hk
      rcases List.mem_cons.mp ((h k).mp (List.mem_cons_of_mem _ hk)) with e | h2
      · subst e
        have := a1 k hk
        omega
      · exact h2
    · intro hk
      rcases List.mem_cons.mp ((h k).mpr (List.mem_cons_of_mem _ hk)) with e | h2
      · subst e
        have := b1 k hk
        omega
      · exact h2

theorem atI_m1 {α : Type} {l : List α} {x : α} (h : l.getLast? = some x) : atI l (-1) = some x := by
  obtain ⟨m, rfl⟩ := List.getLast?_eq_some_iff.mp h
  exact atI_last m x

theorem intsL_snoc (r : List Int) (x : Int) : r.map D.int ++ [D.int x] = (r ++ [x]).map D.int := by rw [List.map_append]; rfl

end K06
namespace K06
open PySem L2 TD
theorem isi_tup {xs : List D} : isiB (tyP (.tup xs)) "tuple" = true := by show isiB "tuple" "tuple" = true; decide
/-! ### is_ascending of a list -/
def sp_is_ascending (A : Ad) : SpD := fun zs G Q _ => match zs with
  | [v] => ∃ ns : List Int, v = .lst (ns.map .int) ∧ ns.length ≤ 1000 ∧ Q (.bl (asc ns)) G
  | _ => False
theorem len_is_ascending {A : Ad} {zs : List D} {G : GH} {Q : DK} {x : XD} (h : sp_is_ascending A zs G Q x) : zs.length = 1 := by
  unfold sp_is_ascending at h
  split at h <;> first | rfl | exact h.elim
def ds_is_ascending (A : Ad) : DS := dRet (dCB rdAll (dCons (dLc (dIZip (dCons (dVar 0) (dCons (dSl (dVar 0) (dPart (dC (.int 1))) dNoPart) dNil))) (gdTup (gdCons (gdName 1) (gdCons (gdName 2) gdNil)) 2) dYes (dOp rdLt (dVar 1) (dVar 2)) [1, 2]) dNil))
def N_is_ascending : List PySem.Str := ["values", "one", "two"]
theorem read_is_ascending {A : Ad} {zs : List D} {G : GH} {Q : DK} {x : XD} (h : sp_is_ascending A zs G Q x) : ds_is_ascending A { nx := fun _ G' => Q .non G', rt := Q, xx := fun _ => x } (dstart N_is_ascending zs) G := by
  unfold sp_is_ascending at h
  split at h
  · rename_i v
    obtain ⟨ns, rfl, hl, q⟩ := h
    unfold N_is_ascending ds_is_ascending
    simp only [dRet, dRetN, dSeq, dAsg, dDrop, dIfS, dNext, dBreak, dCont, dPar, dSetL, dSetD, dFor, dVar, dC, dOp, dAndV, dOrV, dNotV, dAnd, dOr, dNot, dIf, dTest, dChain, dNil, dCons, dTup, dLst, dLstM, dStar, dNeg, dCB, dCall, dCallK, dMthT, dMth0, dLc, dYes, dISeq, dIStr, dIEnum, dIZip, dIRng1, dIRng2, dSl, dPart, dNoPart, dRaise, dDisp1, dNewD, dRevL, dRevT, dSortSet, dSortSetL, dIRng3, dGet2, dIKeys, dNewT, dSetT, dLstRg, dPar3, dLamA, dLamB, gdName, gdTup, gdCons, gdNil, dstart, dwipe, dAug, rdInt, rdSub, rdLt, rdLe, rdGt, rdGe, rdFdiv, rdMod, rdPow, at0, at1, at2, i30, i31, i32, set0, set1, set2, MO.lst.injEq, gup_same, gup_gup, ad_ii, ad_ss, ad_tt, ad_ll, mu_ii, mu_li, mu_ti, ix_t, ix_l, ix_s, ix_r, ix_w, ln_t, ln_l, ln_s, ln_w, ln_r, sr_t, sr_l, sr_s, sr_r, sl_t, sl_l, sl_s, sl_r, sl_w, tu_t, tu_l, tu_r, li_t, li_l, li_r, lm_t, lm_l, mx2, mn2, ab1, in1, is2, rdIsB, rdNotB, rdIsN, rdNotN, TD.isNon, List.map_cons, List.map_nil, List.length_cons, List.length_nil, List.replicate_succ, List.replicate_zero, List.cons_append, List.nil_append, List.append_nil, Nat.zero_add, Nat.reduceAdd, Nat.reduceSub, Nat.sub_self, Nat.add_sub_cancel, List.getElem?_cons_zero, List.getElem?_cons_succ, List.getElem?_nil, List.set_cons_zero, List.set_cons_succ, List.set_nil, Option.some.injEq, D.int.injEq, D.bl.injEq, D.str.injEq, D.ref.injEq, D.ty.injEq, D.tup.injEq, D.lst.injEq, List.cons.injEq, and_true, true_and, ex_two, ex_two', exists_eq_left', exists_eq_left, exists_and_left, exists_and_right, exists_const, exists_eq_right, exists_eq_right', Bool.not_true, Bool.not_false, if_true, if_false, Bool.false_eq_true, reduceCtorEq, false_and, and_false, decide_true, decide_false, cutX_1]
    rw [← List.map_drop, zipD_ints]
    refine dComp_map (fun d => match d with | .tup [.int a, .int b] => D.bl (decide (a < b)) | _ => .non) (by first | trivial | exact ⟨trivial, trivial⟩) (fun d hd K1 k => ?_) ?_
    · obtain ⟨p, _, rfl⟩ := List.mem_map.mp hd
      simp only [dRet, dRetN, dSeq, dAsg, dDrop, dIfS, dNext, dBreak, dCont, dPar, dSetL, dSetD, dFor, dVar, dC, dOp, dAndV, dOrV, dNotV, dAnd, dOr, dNot, dIf, dTest, dChain, dNil, dCons, dTup, dLst, dLstM, dStar, dNeg, dCB, dCall, dCallK, dMthT, dMth0, dLc, dYes, dISeq, dIStr, dIEnum, dIZip, dIRng1, dIRng2, dSl, dPart, dNoPart, dRaise, dDisp1, dNewD, dRevL, dRevT, dSortSet, dSortSetL, dIRng3, dGet2, dIKeys, dNewT, dSetT, dLstRg, dPar3, dLamA, dLamB, gdName, gdTup, gdCons, gdNil, dstart, dwipe, dAug, rdInt, rdSub, rdLt, rdLe, rdGt, rdGe, rdFdiv, rdMod, rdPow, at0, at1, at2, i30, i31, i32, set0, set1, set2, MO.lst.injEq, gup_same, gup_gup, ad_ii, ad_ss, ad_tt, ad_ll, mu_ii, mu_li, mu_ti, ix_t, ix_l, ix_s, ix_r, ix_w, ln_t, ln_l, ln_s, ln_w, ln_r, sr_t, sr_l, sr_s, sr_r, sl_t, sl_l, sl_s, sl_r, sl_w, tu_t, tu_l, tu_r, li_t, li_l, li_r, lm_t, lm_l, mx2, mn2, ab1, in1, is2, rdIsB, rdNotB, rdIsN, rdNotN, TD.isNon, List.map_cons, List.map_nil, List.length_cons, List.length_nil, List.replicate_succ, List.replicate_zero, List.cons_append, List.nil_append, List.append_nil, Nat.zero_add, Nat.reduceAdd, Nat.reduceSub, Nat.sub_self, Nat.add_sub_cancel, List.getElem?_cons_zero, List.getElem?_cons_succ, List.getElem?_nil, List.set_cons_zero, List.set_cons_succ, List.set_nil, Option.some.injEq, D.int.injEq, D.bl.injEq, D.str.injEq, D.ref.injEq, D.ty.injEq, D.tup.injEq, D.lst.injEq, List.cons.injEq, and_true, true_and, ex_two, ex_two', exists_eq_left', exists_eq_left, exists_and_left, exists_and_right, exists_const, exists_eq_right, exists_eq_right', Bool.not_true, Bool.not_false, if_true, if_false, Bool.false_eq_true, reduceCtorEq, false_and, and_false, decide_true, decide_false]
      exact k
    · exact ⟨_, _, rfl, by rw [List.nil_append]; exact zip_asc _, by rw [asc_all]; exact q⟩
  · exact h.elim
/-! ### trucks -/
structure Truck where
  len : Int
  ax : List (Int × Int)
def axD (a : Int × Int) : D := .tup [.int a.1, .int a.2]
def trD (t : Truck) : D := .tup [.int t.len, .tup (t.ax.map axD)]
abbrev Trucks := List Truck
def trsD (ts : Trucks) : D := .tup (ts.map trD)
structure WTr (t : Truck) : Prop where
  l1 : 1 ≤ t.len
  l2 : t.len ≤ 30
  a1 : 1 ≤ t.ax.length
  a2 : t.ax.length ≤ 5
  pl : ∀ a ∈ t.ax, 0 ≤ a.1 ∧ a.1 ≤ t.len ∧ 1 ≤ a.2 ∧ a.2 ≤ 50
  up : asc (t.ax.map (·.1)) = true
structure WTs (ts : Trucks) : Prop where
  n1 : 1 ≤ ts.length
  n4 : ts.length ≤ 4
  ok : ∀ t ∈ ts, WTr t
/-- is_axle -/
def axB (v : D) (l : Int) : Bool := match v with
  | .tup [a, b] => isIn a 0 l && isIn b 1 50
  | _ => false
def sp_is_axle (A : Ad) : SpD := fun zs G Q _ => match zs with
  | [v, .int l] => Pur v ∧ Q (.bl (axB v l)) G
  | _ => False
theorem len_is_axle {A : Ad} {zs : List D} {G : GH} {Q : DK} {x : XD} (h : sp_is_axle A zs G Q x) : zs.length = 2 := by
  unfold sp_is_axle at h
  split at h <;> first | rfl | exact h.elim
def ds_is_axle (A : Ad) : DS := dSeq (dIfS (dOr (dNot (dTest (dCB rdIsi (dCons (dVar 0) (dCons (dC (.ty "tuple")) dNil))))) (dTest (dOp rdNe (dCB rdLen (dCons (dVar 0) dNil)) (dC (.int 2))))) (dRet (dC (.bl false))) dNext) (dRet (dAndV (dCall (sp_is_in A) (dCons (dOp rdIx (dVar 0) (dC (.int 0))) (dCons (dC (.int 0)) (dCons (dVar 1) dNil)))) (dCall (sp_is_in A) (dCons (dOp rdIx (dVar 0) (dC (.int 1))) (dCons (dC (.int 1)) (dCons (dC (.int 50)) dNil))))))
def N_is_axle : List PySem.Str := ["value", "length"]
theorem deq_in (a : Nat) (b : Int) : deq (.int (a : Int)) (.int b) = decide ((a : Int) = b) := by rw [deq]; by_cases h : (a : Int) = b <;> simp [h]
theorem two_of {xs : List D} (h : ((xs.length : Nat) : Int) = 2) : ∃ a b, xs = [a, b] := by
  match xs, h with
  | [a, b], _ => exact ⟨a, b, rfl⟩
  | [], h => simp at h
  | [_], h => simp at h
  | _ :: _ :: _ :: _, h => simp at h; omega
theorem read_is_axle {A : Ad} {zs : List D} {G : GH} {Q : DK} {x : XD} (h : sp_is_axle A zs G Q x) : ds_is_axle A { nx := fun _ G' => Q .non G', rt := Q, xx := fun _ => x } (dstart N_is_axle zs) G := by
  unfold sp_is_axle at h
  split at h
  · rename_i v l
    obtain ⟨hp, q⟩ := h
    unfold N_is_axle ds_is_axle
    simp only [dRet, dRetN, dSeq, dAsg, dDrop, dIfS, dNext, dBreak, dCont, dPar, dSetL, dSetD, dFor, dVar, dC, dOp, dAndV, dOrV, dNotV, dAnd, dOr, dNot, dIf, dTest, dChain, dNil, dCons, dTup, dLst, dLstM, dStar, dNeg, dCB, dCall, dCallK, dMthT, dMth0, dLc, dYes, dISeq, dIStr, dIEnum, dIZip, dIRng1, dIRng2, dSl, dPart, dNoPart, dRaise, dDisp1, dNewD, dRevL, dRevT, dSortSet, dSortSetL, dIRng3, dGet2, dIKeys, dNewT, dSetT, dLstRg, dPar3, dLamA, dLamB, gdName, gdTup, gdCons, gdNil, dstart, dwipe, dAug, rdInt, rdSub, rdLt, rdLe, rdGt, rdGe, rdFdiv, rdMod, rdPow, at0, at1, at2, i30, i31, i32, set0, set1, set2, MO.lst.injEq, gup_same, gup_gup, ad_ii, ad_ss, ad_tt, ad_ll, mu_ii, mu_li, mu_ti, ix_t, ix_l, ix_s, ix_r, ix_w, ln_t, ln_l, ln_s, ln_w, ln_r, sr_t, sr_l, sr_s, sr_r, sl_t, sl_l, sl_s, sl_r, sl_w, tu_t, tu_l, tu_r, li_t, li_l, li_r, lm_t, lm_l, mx2, mn2, ab1, in1, is2, rdIsB, rdNotB, rdIsN, rdNotN, TD.isNon, List.map_cons, List.map_nil, List.length_cons, List.length_nil, List.replicate_succ, List.replicate_zero, List.cons_append, List.nil_append, List.append_nil, Nat.zero_add, Nat.reduceAdd, Nat.reduceSub, Nat.sub_self, Nat.add_sub_cancel, List.getElem?_cons_zero, List.getElem?_cons_succ, List.getElem?_nil, List.set_cons_zero, List.set_cons_succ, List.set_nil, Option.some.injEq, D.int.injEq, D.bl.injEq, D.str.injEq, D.ref.injEq, D.ty.injEq, D.tup.injEq, D.lst.injEq, List.cons.injEq, and_true, true_and, ex_two, ex_two', exists_eq_left', exists_eq_left, exists_and_left, exists_and_right, exists_const, exists_eq_right, exists_eq_right', Bool.not_true, Bool.not_false, if_true, if_false, Bool.false_eq_true, reduceCtorEq, false_and, and_false, decide_true, decide_false, tyD_pur hp, m_tuple]
    cases v with
    | tup xs =>
      simp only [isi_tup, dRet, dRetN, dSeq, dAsg, dDrop, dIfS, dNext, dBreak, dCont, dPar, dSetL, dSetD, dFor, dVar, dC, dOp, dAndV, dOrV, dNotV, dAnd, dOr, dNot, dIf, dTest, dChain, dNil, dCons, dTup, dLst, dLstM, dStar, dNeg, dCB, dCall, dCallK, dMthT, dMth0, dLc, dYes, dISeq, dIStr, dIEnum, dIZip, dIRng1, dIRng2, dSl, dPart, dNoPart, dRaise, dDisp1, dNewD, dRevL, dRevT, dSortSet, dSortSetL, dIRng3, dGet2, dIKeys, dNewT, dSetT, dLstRg, dPar3, dLamA, dLamB, gdName, gdTup, gdCons, gdNil, dstart, dwipe, dAug, rdInt, rdSub, rdLt, rdLe, rdGt, rdGe, rdFdiv, rdMod, rdPow, at0, at1, at2, i30, i31, i32, set0, set1, set2, MO.lst.injEq, gup_same, gup_gup, ad_ii, ad_ss, ad_tt, ad_ll, mu_ii, mu_li, mu_ti, ix_t, ix_l, ix_s, ix_r, ix_w, ln_t, ln_l, ln_s, ln_w, ln_r, sr_t, sr_l, sr_s, sr_r, sl_t, sl_l, sl_s, sl_r, sl_w, tu_t, tu_l, tu_r, li_t, li_l, li_r, lm_t, lm_l, mx2, mn2, ab1, in1, is2, rdIsB, rdNotB, rdIsN, rdNotN, TD.isNon, List.map_cons, List.map_nil, List.length_cons, List.length_nil, List.replicate_succ, List.replicate_zero, List.cons_append, List.nil_append, List.append_nil, Nat.zero_add, Nat.reduceAdd, Nat.reduceSub, Nat.sub_self, Nat.add_sub_cancel, List.getElem?_cons_zero, List.getElem?_cons_succ, List.getElem?_nil, List.set_cons_zero, List.set_cons_succ, List.set_nil, Option.some.injEq, D.int.injEq, D.bl.injEq, D.str.injEq, D.ref.injEq, D.ty.injEq, D.tup.injEq, D.lst.injEq, List.cons.injEq, and_true, true_and, ex_two, ex_two', exists_eq_left', exists_eq_left, exists_and_left, exists_and_right, exists_const, exists_eq_right, exists_eq_right', Bool.not_true, Bool.not_false, if_true, if_false, Bool.false_eq_true, reduceCtorEq, false_and, and_false, decide_true, decide_false]
      refine ne_pur (pur_int _) (pur_int _) ?_
      rw [deq_in]
      try refine ⟨_, rfl, ?_⟩
      by_cases c : ((xs.length : Nat) : Int) = 2
      · obtain ⟨a, b, rfl⟩ := two_of c
        simp only [c, decide_true, Bool.not_true, Bool.false_eq_true, if_false, dRet, dRetN, dSeq, dAsg, dDrop, dIfS, dNext, dBreak, dCont, dPar, dSetL, dSetD, dFor, dVar, dC, dOp, dAndV, dOrV, dNotV, dAnd, dOr, dNot, dIf, dTest, dChain, dNil, dCons, dTup, dLst, dLstM, dStar, dNeg, dCB, dCall, dCallK, dMthT, dMth0, dLc, dYes, dISeq, dIStr, dIEnum, dIZip, dIRng1, dIRng2, dSl, dPart, dNoPart, dRaise, dDisp1, dNewD, dRevL, dRevT, dSortSet, dSortSetL, dIRng3, dGet2, dIKeys, dNewT, dSetT, dLstRg, dPar3, dLamA, dLamB, gdName, gdTup, gdCons, gdNil, dstart, dwipe, dAug, rdInt, rdSub, rdLt, rdLe, rdGt, rdGe, rdFdiv, rdMod, rdPow, at0, at1, at2, i30, i31, i32, set0, set1, set2, MO.lst.injEq, gup_same, gup_gup, ad_ii, ad_ss, ad_tt, ad_ll, mu_ii, mu_li, mu_ti, ix_t, ix_l, ix_s, ix_r, ix_w, ln_t, ln_l, ln_s, ln_w, ln_r, sr_t, sr_l, sr_s, sr_r, sl_t, sl_l, sl_s, sl_r, sl_w, tu_t, tu_l, tu_r, li_t, li_l, li_r, lm_t, lm_l, mx2, mn2, ab1, in1, is2, rdIsB, rdNotB, rdIsN, rdNotN, TD.isNon, List.map_cons, List.map_nil, List.length_cons, List.length_nil, List.replicate_succ, List.replicate_zero, List.cons_append, List.nil_append, List.append_nil, Nat.zero_add, Nat.reduceAdd, Nat.reduceSub, Nat.sub_self, Nat.add_sub_cancel, List.getElem?_cons_zero, List.getElem?_cons_succ, List.getElem?_nil, List.set_cons_zero, List.set_cons_succ, List.set_nil, Option.some.injEq, D.int.injEq, D.bl.injEq, D.str.injEq, D.ref.injEq, D.ty.injEq, D.tup.injEq, D.lst.injEq, List.cons.injEq, and_true, true_and, ex_two, ex_two', exists_eq_left', exists_eq_left, exists_and_left, exists_and_right, exists_const, exists_eq_right, exists_eq_right', Bool.not_true, Bool.not_false, if_true, if_false, Bool.false_eq_true, reduceCtorEq, false_and, and_false, decide_true, decide_false]
        refine ⟨pur_tup hp a (by simp), ?_⟩
        refine ⟨_, rfl, ?_⟩
        simp only [axB] at q
        cases h1 : isIn a 0 l with
        | false => rw [h1] at q; simpa using q
        | true =>
          rw [h1] at q
          simp only [dRet, dRetN, dSeq, dAsg, dDrop, dIfS, dNext, dBreak, dCont, dPar, dSetL, dSetD, dFor, dVar, dC, dOp, dAndV, dOrV, dNotV, dAnd, dOr, dNot, dIf, dTest, dChain, dNil, dCons, dTup, dLst, dLstM, dStar, dNeg, dCB, dCall, dCallK, dMthT, dMth0, dLc, dYes, dISeq, dIStr, dIEnum, dIZip, dIRng1, dIRng2, dSl, dPart, dNoPart, dRaise, dDisp1, dNewD, dRevL, dRevT, dSortSet, dSortSetL, dIRng3, dGet2, dIKeys, dNewT, dSetT, dLstRg, dPar3, dLamA, dLamB, gdName, gdTup, gdCons, gdNil, dstart, dwipe, dAug, rdInt, rdSub, rdLt, rdLe, rdGt, rdGe, rdFdiv, rdMod, rdPow, at0, at1, at2, i30, i31, i32, set0, set1, set2, MO.lst.injEq, gup_same, gup_gup, ad_ii, ad_ss, ad_tt, ad_ll, mu_ii, mu_li, mu_ti, ix_t, ix_l, ix_s, ix_r, ix_w, ln_t, ln_l, ln_s, ln_w, ln_r, sr_t, sr_l, sr_s, sr_r, sl_t, sl_l, sl_s, sl_r, sl_w, tu_t, tu_l, tu_r, li_t, li_l, li_r, lm_t, lm_l, mx2, mn2, ab1, in1, is2, rdIsB, rdNotB, rdIsN, rdNotN, TD.isNon, List.map_cons, List.map_nil, List.length_cons, List.length_nil, List.replicate_succ, List.replicate_zero, List.cons_append, List.nil_append, List.append_nil, Nat.zero_add, Nat.reduceAdd, Nat.reduceSub, Nat.sub_self, Nat.add_sub_cancel, List.getElem?_cons_zero, List.getElem?_cons_succ, List.getElem?_nil, List.set_cons_zero, List.set_cons_succ, List.set_nil, Option.some.injEq, D.int.injEq, D.bl.injEq, D.str.injEq, D.ref.injEq, D.ty.injEq, D.tup.injEq, D.lst.injEq, List.cons.injEq, and_true, true_and, ex_two, ex_two', exists_eq_left', exists_eq_left, exists_and_left, exists_and_right, exists_const, exists_eq_right, exists_eq_right', Bool.not_true, Bool.not_false, if_true, if_false, Bool.false_eq_true, reduceCtorEq, false_and, and_false, decide_true, decide_false]
          exact ⟨pur_tup hp b (by simp), by simpa using q⟩
      · simp only [c, decide_false, Bool.not_false, if_true]
        have e : axB (.tup xs) l = false := by
          unfold axB
          split
          · rename_i a b e; injection e with e; subst e; simp at c
          · rfl
        rw [e] at q
        exact q
    | _ => first | (simpa [tyP, isiB, axB] using q) | (simp [Pur, pureN] at hp)
  · exact h.elim
end K06
namespace K06
open PySem L2 TD
theorem isi_not {v : D} (h : ∀ xs, v ≠ .tup xs) : isiB (tyP v) "tuple" = false := by
  cases v with
  | tup xs => exact absurd rfl (h xs)
  | _ => simp [tyP, isiB]
def fst0 (d : D) : Int := match d with
  | .tup (.int p :: _) => p
  | _ => 0
def trB (v : D) : Bool := match v with
  | .tup [.int l, .tup axs] => decide (1 ≤ l) && decide (l ≤ 30) && decide (1 ≤ axs.length) && decide (axs.length ≤ 5) && axs.all (fun d => axB d l) && asc (axs.map fst0)
  | _ => false
theorem axB_ok {v : D} {l : Int} (h : axB v l = true) : ∃ a : Int × Int, v = axD a ∧ 0 ≤ a.1 ∧ a.1 ≤ l ∧ 1 ≤ a.2 ∧ a.2 ≤ 50 := by
  unfold axB at h
  split at h
  · rename_i a b
    simp only [Bool.and_eq_true] at h
    obtain ⟨i, rfl, h1, h2⟩ := isIn_ok h.1
    obtain ⟨j, rfl, h3, h4⟩ := isIn_ok h.2
    exact ⟨(i, j), rfl, h1, h2, h3, h4⟩
  · cases h
theorem axs_of : ∀ {xs : List D} {l : Int}, (∀ x ∈ xs, axB x l = true) → ∃ ax : List (Int × Int), xs = ax.map axD ∧ ∀ a ∈ ax, 0 ≤ a.1 ∧ a.1 ≤ l ∧ 1 ≤ a.2 ∧ a.2 ≤ 50
  | [], l, h => ⟨[], rfl, fun a ha => (List.not_mem_nil ha).elim⟩
  | x :: xs, l, h => by
    obtain ⟨a, rfl, q⟩ := axB_ok (h x List.mem_cons_self)
    obtain ⟨ax, rfl, q2⟩ := axs_of fun y hy => h y (List.mem_cons_of_mem _ hy)
    refine ⟨a :: ax, rfl, fun b hb => ?_⟩
    rcases List.mem_cons.mp hb with rfl | hb
    · exact q
    · exact q2 b hb
theorem fst0_ax (ax : List (Int × Int)) : (ax.map axD).map fst0 = ax.map (·.1) := by
  rw [List.map_map]; rfl
theorem trB_ok {v : D} (h : trB v = true) : ∃ t, v = trD t ∧ WTr t := by
  unfold trB at h
  split at h
  · rename_i l axs
    simp only [Bool.and_eq_true, decide_eq_true_eq, List.all_eq_true] at h
    obtain ⟨⟨⟨⟨⟨h1, h2⟩, h3⟩, h4⟩, h5⟩, h6⟩ := h
    obtain ⟨ax, rfl, q⟩ := axs_of h5
    rw [List.length_map] at h3 h4
    rw [fst0_ax] at h6
    exact ⟨⟨l, ax⟩, rfl, h1, h2, h3, h4, q, h6⟩
  · cases h
def sp_is_truck (A : Ad) : SpD := fun zs G Q _ => match zs with
  | [v] => Pur v ∧ Q (.bl (trB v)) G
  | _ => False
theorem len_is_truck {A : Ad} {zs : List D} {G : GH} {Q : DK} {x : XD} (h : sp_is_truck A zs G Q x) : zs.length = 1 := by
  unfold sp_is_truck at h
  split at h <;> first | rfl | exact h.elim
def ds_is_truck (A : Ad) : DS := dSeq (dIfS (dOr (dNot (dTest (dCB rdIsi (dCons (dVar 0) (dCons (dC (.ty "tuple")) dNil))))) (dOr (dTest (dOp rdNe (dCB rdLen (dCons (dVar 0) dNil)) (dC (.int 2)))) (dNot (dTest (dCall (sp_is_in A) (dCons (dOp rdIx (dVar 0) (dC (.int 0))) (dCons (dC (.int 1)) (dCons (dC (.int 30)) dNil)))))))) (dRet (dC (.bl false))) dNext) (dSeq (dIfS (dOr (dNot (dTest (dCB rdIsi (dCons (dOp rdIx (dVar 0) (dC (.int 1))) (dCons (dC (.ty "tuple")) dNil))))) (dNot (dTest (dChain rdLe rdLe (dC (.int 1)) (dCB rdLen (dCons (dOp rdIx (dVar 0) (dC (.int 1))) dNil)) (dC (.int 5)))))) (dRet (dC (.bl false))) dNext) (dRet (dAndV (dCB rdAll (dCons (dLc (dISeq (dOp rdIx (dVar 0) (dC (.int 1)))) (gdName 1) dYes (dCall (sp_is_axle A) (dCons (dVar 1) (dCons (dOp rdIx (dVar 0) (dC (.int 0))) dNil))) [1]) dNil)) (dCall (sp_is_ascending A) (dCons (dLc (dISeq (dOp rdIx (dVar 0) (dC (.int 1)))) (gdName 1) dYes (dOp rdIx (dVar 1) (dC (.int 0))) [1]) dNil)))))
def N_is_truck : List PySem.Str := ["value", "axle"]
theorem read_is_truck {A : Ad} {zs : List D} {G : GH} {Q : DK} {x : XD} (h : sp_is_truck A zs G Q x) : ds_is_truck A { nx := fun _ G' => Q .non G', rt := Q, xx := fun _ => x } (dstart N_is_truck zs) G := by
  unfold sp_is_truck at h
  split at h
  · rename_i v
    obtain ⟨hp, q⟩ := h
    unfold N_is_truck ds_is_truck
    simp only [dRet, dRetN, dSeq, dAsg, dDrop, dIfS, dNext, dBreak, dCont, dPar, dSetL, dSetD, dFor, dVar, dC, dOp, dAndV, dOrV, dNotV, dAnd, dOr, dNot, dIf, dTest, dChain, dNil, dCons, dTup, dLst, dLstM, dStar, dNeg, dCB, dCall, dCallK, dMthT, dMth0, dLc, dYes, dISeq, dIStr, dIEnum, dIZip, dIRng1, dIRng2, dSl, dPart, dNoPart, dRaise, dDisp1, dNewD, dRevL, dRevT, dSortSet, dSortSetL, dIRng3, dGet2, dIKeys, dNewT, dSetT, dLstRg, dPar3, dLamA, dLamB, gdName, gdTup, gdCons, gdNil, dstart, dwipe, dAug, rdInt, rdSub, rdLt, rdLe, rdGt, rdGe, rdFdiv, rdMod, rdPow, at0, at1, at2, i30, i31, i32, set0, set1, set2, MO.lst.injEq, gup_same, gup_gup, ad_ii, ad_ss, ad_tt, ad_ll, mu_ii, mu_li, mu_ti, ix_t, ix_l, ix_s, ix_r, ix_w, ln_t, ln_l, ln_s, ln_w, ln_r, sr_t, sr_l, sr_s, sr_r, sl_t, sl_l, sl_s, sl_r, sl_w, tu_t, tu_l, tu_r, li_t, li_l, li_r, lm_t, lm_l, mx2, mn2, ab1, in1, is2, rdIsB, rdNotB, rdIsN, rdNotN, TD.isNon, List.map_cons, List.map_nil, List.length_cons, List.length_nil, List.replicate_succ, List.replicate_zero, List.cons_append, List.nil_append, List.append_nil, Nat.zero_add, Nat.reduceAdd, Nat.reduceSub, Nat.sub_self, Nat.add_sub_cancel, List.getElem?_cons_zero, List.getElem?_cons_succ, List.getElem?_nil, List.set_cons_zero, List.set_cons_succ, List.set_nil, Option.some.injEq, D.int.injEq, D.bl.injEq, D.str.injEq, D.ref.injEq, D.ty.injEq, D.tup.injEq, D.lst.injEq, List.cons.injEq, and_true, true_and, ex_two, ex_two', exists_eq_left', exists_eq_left, exists_and_left, exists_and_right, exists_const, exists_eq_right, exists_eq_right', Bool.not_true, Bool.not_false, if_true, if_false, Bool.false_eq_true, reduceCtorEq, false_and, and_false, decide_true, decide_false, tyD_pur hp, m_tuple]
    cases v with
    | tup xs =>
      simp only [isi_tup, dRet, dRetN, dSeq, dAsg, dDrop, dIfS, dNext, dBreak, dCont, dPar, dSetL, dSetD, dFor, dVar, dC, dOp, dAndV, dOrV, dNotV, dAnd, dOr, dNot, dIf, dTest, dChain, dNil, dCons, dTup, dLst, dLstM, dStar, dNeg, dCB, dCall, dCallK, dMthT, dMth0, dLc, dYes, dISeq, dIStr, dIEnum, dIZip, dIRng1, dIRng2, dSl, dPart, dNoPart, dRaise, dDisp1, dNewD, dRevL, dRevT, dSortSet, dSortSetL, dIRng3, dGet2, dIKeys, dNewT, dSetT, dLstRg, dPar3, dLamA, dLamB, gdName, gdTup, gdCons, gdNil, dstart, dwipe, dAug, rdInt, rdSub, rdLt, rdLe, rdGt, rdGe, rdFdiv, rdMod, rdPow, at0, at1, at2, i30, i31, i32, set0, set1, set2, MO.lst.injEq, gup_same, gup_gup, ad_ii, ad_ss, ad_tt, ad_ll, mu_ii, mu_li, mu_ti, ix_t, ix_l, ix_s, ix_r, ix_w, ln_t, ln_l, ln_s, ln_w, ln_r, sr_t, sr_l, sr_s, sr_r, sl_t, sl_l, sl_s, sl_r, sl_w, tu_t, tu_l, tu_r, li_t, li_l, li_r, lm_t, lm_l, mx2, mn2, ab1, in1, is2, rdIsB, rdNotB, rdIsN, rdNotN, TD.isNon, List.map_cons, List.map_nil, List.length_cons, List.length_nil, List.replicate_succ, List.replicate_zero, List.cons_append, List.nil_append, List.append_nil, Nat.zero_add, Nat.reduceAdd, Nat.reduceSub, Nat.sub_self, Nat.add_sub_cancel, List.getElem?_cons_zero, List.getElem?_cons_succ, List.getElem?_nil, List.set_cons_zero, List.set_cons_succ, List.set_nil, Option.some.injEq, D.int.injEq, D.bl.injEq, D.str.injEq, D.ref.injEq, D.ty.injEq, D.tup.injEq, D.lst.injEq, List.cons.injEq, and_true, true_and, ex_two, ex_two', exists_eq_left', exists_eq_left, exists_and_left, exists_and_right, exists_const, exists_eq_right, exists_eq_right', Bool.not_true, Bool.not_false, if_true, if_false, Bool.false_eq_true, reduceCtorEq, false_and, and_false, decide_true, decide_false]
      refine ne_pur (pur_int _) (pur_int _) ?_
      rw [deq_in]
      refine ⟨_, rfl, ?_⟩
      by_cases c : ((xs.length : Nat) : Int) = 2
      · obtain ⟨a, b, rfl⟩ := two_of c
        have hpa := pur_tup hp a (by simp)
        have hpb := pur_tup hp b (by simp)
        simp only [c, decide_true, Bool.not_true, Bool.false_eq_true, if_false, dRet, dRetN, dSeq, dAsg, dDrop, dIfS, dNext, dBreak, dCont, dPar, dSetL, dSetD, dFor, dVar, dC, dOp, dAndV, dOrV, dNotV, dAnd, dOr, dNot, dIf, dTest, dChain, dNil, dCons, dTup, dLst, dLstM, dStar, dNeg, dCB, dCall, dCallK, dMthT, dMth0, dLc, dYes, dISeq, dIStr, dIEnum, dIZip, dIRng1, dIRng2, dSl, dPart, dNoPart, dRaise, dDisp1, dNewD, dRevL, dRevT, dSortSet, dSortSetL, dIRng3, dGet2, dIKeys, dNewT, dSetT, dLstRg, dPar3, dLamA, dLamB, gdName, gdTup, gdCons, gdNil, dstart, dwipe, dAug, rdInt, rdSub, rdLt, rdLe, rdGt, rdGe, rdFdiv, rdMod, rdPow, at0, at1, at2, i30, i31, i32, set0, set1, set2, MO.lst.injEq, gup_same, gup_gup, ad_ii, ad_ss, ad_tt, ad_ll, mu_ii, mu_li, mu_ti, ix_t, ix_l, ix_s, ix_r, ix_w, ln_t, ln_l, ln_s, ln_w, ln_r, sr_t, sr_l, sr_s, sr_r, sl_t, sl_l, sl_s, sl_r, sl_w, tu_t, tu_l, tu_r, li_t, li_l, li_r, lm_t, lm_l, mx2, mn2, ab1, in1, is2, rdIsB, rdNotB, rdIsN, rdNotN, TD.isNon, List.map_cons, List.map_nil, List.length_cons, List.length_nil, List.replicate_succ, List.replicate_zero, List.cons_append, List.nil_append, List.append_nil, Nat.zero_add, Nat.reduceAdd, Nat.reduceSub, Nat.sub_self, Nat.add_sub_cancel, List.getElem?_cons_zero, List.getElem?_cons_succ, List.getElem?_nil, List.set_cons_zero, List.set_cons_succ, List.set_nil, Option.some.injEq, D.int.injEq, D.bl.injEq, D.str.injEq, D.ref.injEq, D.ty.injEq, D.tup.injEq, D.lst.injEq, List.cons.injEq, and_true, true_and, ex_two, ex_two', exists_eq_left', exists_eq_left, exists_and_left, exists_and_right, exists_const, exists_eq_right, exists_eq_right', Bool.not_true, Bool.not_false, if_true, if_false, Bool.false_eq_true, reduceCtorEq, false_and, and_false, decide_true, decide_false]
        refine ⟨hpa, _, rfl, ?_⟩
        cases h1 : isIn a 1 30 with
        | false =>
          simp only [Bool.not_false, if_true]
          have e : trB (.tup [a, b]) = false := by
            cases ht : trB (.tup [a, b]) with
            | false => rfl
            | true =>
              obtain ⟨t, e, w⟩ := trB_ok ht
              injection e with e
              injection e with e e2
              subst e
              have := w.l1
              have := w.l2
              simp [isIn] at h1
              omega
          rw [e] at q
          exact q
        | true =>
          obtain ⟨l, rfl, l1, l2⟩ := isIn_ok h1
          simp only [Bool.not_true, Bool.false_eq_true, if_false, tyD_pur hpb, m_tuple, dRet, dRetN, dSeq, dAsg, dDrop, dIfS, dNext, dBreak, dCont, dPar, dSetL, dSetD, dFor, dVar, dC, dOp, dAndV, dOrV, dNotV, dAnd, dOr, dNot, dIf, dTest, dChain, dNil, dCons, dTup, dLst, dLstM, dStar, dNeg, dCB, dCall, dCallK, dMthT, dMth0, dLc, dYes, dISeq, dIStr, dIEnum, dIZip, dIRng1, dIRng2, dSl, dPart, dNoPart, dRaise, dDisp1, dNewD, dRevL, dRevT, dSortSet, dSortSetL, dIRng3, dGet2, dIKeys, dNewT, dSetT, dLstRg, dPar3, dLamA, dLamB, gdName, gdTup, gdCons, gdNil, dstart, dwipe, dAug, rdInt, rdSub, rdLt, rdLe, rdGt, rdGe, rdFdiv, rdMod, rdPow, at0, at1, at2, i30, i31, i32, set0, set1, set2, MO.lst.injEq, gup_same, gup_gup, ad_ii, ad_ss, ad_tt, ad_ll, mu_ii, mu_li, mu_ti, ix_t, ix_l, ix_s, ix_r, ix_w, ln_t, ln_l, ln_s, ln_w, ln_r, sr_t, sr_l, sr_s, sr_r, sl_t, sl_l, sl_s, sl_r, sl_w, tu_t, tu_l, tu_r, li_t, li_l, li_r, lm_t, lm_l, mx2, mn2, ab1, in1, is2, rdIsB, rdNotB, rdIsN, rdNotN, TD.isNon, List.map_cons, List.map_nil, List.length_cons, List.length_nil, List.replicate_succ, List.replicate_zero, List.cons_append, List.nil_append, List.append_nil, Nat.zero_add, Nat.reduceAdd, Nat.reduceSub, Nat.sub_self, Nat.add_sub_cancel, List.getElem?_cons_zero, List.getElem?_cons_succ, List.getElem?_nil, List.set_cons_zero, List.set_cons_succ, List.set_nil, Option.some.injEq, D.int.injEq, D.bl.injEq, D.str.injEq, D.ref.injEq, D.ty.injEq, D.tup.injEq, D.lst.injEq, List.cons.injEq, and_true, true_and, ex_two, ex_two', exists_eq_left', exists_eq_left, exists_and_left, exists_and_right, exists_const, exists_eq_right, exists_eq_right', Bool.not_true, Bool.not_false, if_true, if_false, Bool.false_eq_true, reduceCtorEq, false_and, and_false, decide_true, decide_false]
          by_cases hb : ∃ axs, b = .tup axs
          · obtain ⟨axs, rfl⟩ := hb
            simp only [isi_tup, dRet, dRetN, dSeq, dAsg, dDrop, dIfS, dNext, dBreak, dCont, dPar, dSetL, dSetD, dFor, dVar, dC, dOp, dAndV, dOrV, dNotV, dAnd, dOr, dNot, dIf, dTest, dChain, dNil, dCons, dTup, dLst, dLstM, dStar, dNeg, dCB, dCall, dCallK, dMthT, dMth0, dLc, dYes, dISeq, dIStr, dIEnum, dIZip, dIRng1, dIRng2, dSl, dPart, dNoPart, dRaise, dDisp1, dNewD, dRevL, dRevT, dSortSet, dSortSetL, dIRng3, dGet2, dIKeys, dNewT, dSetT, dLstRg, dPar3, dLamA, dLamB, gdName, gdTup, gdCons, gdNil, dstart, dwipe, dAug, rdInt, rdSub, rdLt, rdLe, rdGt, rdGe, rdFdiv, rdMod, rdPow, at0, at1, at2, i30, i31, i32, set0, set1, set2, MO.lst.injEq, gup_same, gup_gup, ad_ii, ad_ss, ad_tt, ad_ll, mu_ii, mu_li, mu_ti, ix_t, ix_l, ix_s, ix_r, ix_w, ln_t, ln_l, ln_s, ln_w, ln_r, sr_t, sr_l, sr_s, sr_r, sl_t, sl_l, sl_s, sl_r, sl_w, tu_t, tu_l, tu_r, li_t, li_l, li_r, lm_t, lm_l, mx2, mn2, ab1, in1, is2, rdIsB, rdNotB, rdIsN, rdNotN, TD.isNon, List.map_cons, List.map_nil, List.length_cons, List.length_nil, List.replicate_succ, List.replicate_zero, List.cons_append, List.nil_append, List.append_nil, Nat.zero_add, Nat.reduceAdd, Nat.reduceSub, Nat.sub_self, Nat.add_sub_cancel, List.getElem?_cons_zero, List.getElem?_cons_succ, List.getElem?_nil, List.set_cons_zero, List.set_cons_succ, List.set_nil, Option.some.injEq, D.int.injEq, D.bl.injEq, D.str.injEq, D.ref.injEq, D.ty.injEq, D.tup.injEq, D.lst.injEq, List.cons.injEq, and_true, true_and, ex_two, ex_two', exists_eq_left', exists_eq_left, exists_and_left, exists_and_right, exists_const, exists_eq_right, exists_eq_right', Bool.not_true, Bool.not_false, if_true, if_false, Bool.false_eq_true, reduceCtorEq, false_and, and_false, decide_true, decide_false]
            simp only [trB, l1, l2, decide_true, Bool.true_and] at q
            by_cases c1 : 1 ≤ axs.length
            · by_cases c2 : axs.length ≤ 5
              · have e1 : (1 : Int) ≤ (axs.length : Int) := by omega
                have e2 : ¬ (5 : Int) < (axs.length : Int) := by omega
                simp only [c1, c2, decide_true, Bool.true_and] at q
                simp [e1, e2]
                refine dComp_map (fun d => .bl (axB d l)) trivial (fun d hd K1 k1 => ?_) ?_
                · simp only [dRet, dRetN, dSeq, dAsg, dDrop, dIfS, dNext, dBreak, dCont, dPar, dSetL, dSetD, dFor, dVar, dC, dOp, dAndV, dOrV, dNotV, dAnd, dOr, dNot, dIf, dTest, dChain, dNil, dCons, dTup, dLst, dLstM, dStar, dNeg, dCB, dCall, dCallK, dMthT, dMth0, dLc, dYes, dISeq, dIStr, dIEnum, dIZip, dIRng1, dIRng2, dSl, dPart, dNoPart, dRaise, dDisp1, dNewD, dRevL, dRevT, dSortSet, dSortSetL, dIRng3, dGet2, dIKeys, dNewT, dSetT, dLstRg, dPar3, dLamA, dLamB, gdName, gdTup, gdCons, gdNil, dstart, dwipe, dAug, rdInt, rdSub, rdLt, rdLe, rdGt, rdGe, rdFdiv, rdMod, rdPow, at0, at1, at2, i30, i31, i32, set0, set1, set2, MO.lst.injEq, gup_same, gup_gup, ad_ii, ad_ss, ad_tt, ad_ll, mu_ii, mu_li, mu_ti, ix_t, ix_l, ix_s, ix_r, ix_w, ln_t, ln_l, ln_s, ln_w, ln_r, sr_t, sr_l, sr_s, sr_r, sl_t, sl_l, sl_s, sl_r, sl_w, tu_t, tu_l, tu_r, li_t, li_l, li_r, lm_t, lm_l, mx2, mn2, ab1, in1, is2, rdIsB, rdNotB, rdIsN, rdNotN, TD.isNon, List.map_cons, List.map_nil, List.length_cons, List.length_nil, List.replicate_succ, List.replicate_zero, List.cons_append, List.nil_append, List.append_nil, Nat.zero_add, Nat.reduceAdd, Nat.reduceSub, Nat.sub_self, Nat.add_sub_cancel, List.getElem?_cons_zero, List.getElem?_cons_succ, List.getElem?_nil, List.set_cons_zero, List.set_cons_succ, List.set_nil, Option.some.injEq, D.int.injEq, D.bl.injEq, D.str.injEq, D.ref.injEq, D.ty.injEq, D.tup.injEq, D.lst.injEq, List.cons.injEq, and_true, true_and, ex_two, ex_two', exists_eq_left', exists_eq_left, exists_and_left, exists_and_right, exists_const, exists_eq_right, exists_eq_right', Bool.not_true, Bool.not_false, if_true, if_false, Bool.false_eq_true, reduceCtorEq, false_and, and_false, decide_true, decide_false]
                  exact ⟨pur_tup hpb d hd, k1⟩
                · refine ⟨_, _, rfl, by rw [List.nil_append]; exact dBls_of_map _ _, ?_⟩
                  rw [all_map_id]
                  cases h5 : axs.all fun d => axB d l with
                  | false => rw [h5] at q; simpa using q
                  | true =>
                    rw [h5] at q
                    simp only [Bool.true_and] at q
                    obtain ⟨ax, rfl, qa⟩ := axs_of (l := l) (xs := axs) (by simpa using h5)
                    refine .inr ⟨rfl, ?_⟩
                    refine dComp_map (fun d => .int (fst0 d)) trivial (fun d hd K1 k1 => ?_) ?_
                    · obtain ⟨a, ha, rfl⟩ := List.mem_map.mp hd
                      simp only [axD, dRet, dRetN, dSeq, dAsg, dDrop, dIfS, dNext, dBreak, dCont, dPar, dSetL, dSetD, dFor, dVar, dC, dOp, dAndV, dOrV, dNotV, dAnd, dOr, dNot, dIf, dTest, dChain, dNil, dCons, dTup, dLst, dLstM, dStar, dNeg, dCB, dCall, dCallK, dMthT, dMth0, dLc, dYes, dISeq, dIStr, dIEnum, dIZip, dIRng1, dIRng2, dSl, dPart, dNoPart, dRaise, dDisp1, dNewD, dRevL, dRevT, dSortSet, dSortSetL, dIRng3, dGet2, dIKeys, dNewT, dSetT, dLstRg, dPar3, dLamA, dLamB, gdName, gdTup, gdCons, gdNil, dstart, dwipe, dAug, rdInt, rdSub, rdLt, rdLe, rdGt, rdGe, rdFdiv, rdMod, rdPow, at0, at1, at2, i30, i31, i32, set0, set1, set2, MO.lst.injEq, gup_same, gup_gup, ad_ii, ad_ss, ad_tt, ad_ll, mu_ii, mu_li, mu_ti, ix_t, ix_l, ix_s, ix_r, ix_w, ln_t, ln_l, ln_s, ln_w, ln_r, sr_t, sr_l, sr_s, sr_r, sl_t, sl_l, sl_s, sl_r, sl_w, tu_t, tu_l, tu_r, li_t, li_l, li_r, lm_t, lm_l, mx2, mn2, ab1, in1, is2, rdIsB, rdNotB, rdIsN, rdNotN, TD.isNon, List.map_cons, List.map_nil, List.length_cons, List.length_nil, List.replicate_succ, List.replicate_zero, List.cons_append, List.nil_append, List.append_nil, Nat.zero_add, Nat.reduceAdd, Nat.reduceSub, Nat.sub_self, Nat.add_sub_cancel, List.getElem?_cons_zero, List.getElem?_cons_succ, List.getElem?_nil, List.set_cons_zero, List.set_cons_succ, List.set_nil, Option.some.injEq, D.int.injEq, D.bl.injEq, D.str.injEq, D.ref.injEq, D.ty.injEq, D.tup.injEq, D.lst.injEq, List.cons.injEq, and_true, true_and, ex_two, ex_two', exists_eq_left', exists_eq_left, exists_and_left, exists_and_right, exists_const, exists_eq_right, exists_eq_right', Bool.not_true, Bool.not_false, if_true, if_false, Bool.false_eq_true, reduceCtorEq, false_and, and_false, decide_true, decide_false]
                      exact k1
                    · rw [List.nil_append, List.map_map]
                      rw [fst0_ax] at q
                      refine ⟨ax.map (·.1), ?_, ?_, q⟩
                      · rw [List.map_map]; rfl
                      · rw [List.length_map] at c2 ⊢; omega
              · have e1 : (1 : Int) ≤ (axs.length : Int) := by omega
                have e2 : (5 : Int) < (axs.length : Int) := by omega
                simp [e1, e2]
                simpa [c1, c2] using q
            · have e1 : ¬ (1 : Int) ≤ (axs.length : Int) := by omega
              simp [e1]
              simpa [c1] using q
          · rw [isi_not fun axs e => hb ⟨axs, e⟩]
            have e : trB (.tup [.int l, b]) = false := by
              unfold trB
              split
              · rename_i l' axs e; injection e with e; injection e with e1 e; injection e with e e2; exact absurd ⟨_, e⟩ hb
              · rfl
            rw [e] at q
            simpa using q
      · simp only [c, decide_false, Bool.not_false, if_true]
        have e : trB (.tup xs) = false := by
          unfold trB
          split
          · rename_i l axs e; injection e with e; subst e; simp at c
          · rfl
        rw [e] at q
        exact q
    | _ => first | (simpa [tyP, isiB, trB] using q) | (simp [Pur, pureN] at hp)
  · exact h.elim
def trsB (v : D) : Bool := match v with
  | .tup xs => decide (1 ≤ xs.length) && decide (xs.length ≤ 4) && xs.all trB
  | _ => false
theorem trs_of : ∀ {xs : List D}, (∀ x ∈ xs, trB x = true) → ∃ ts : Trucks, xs = ts.map trD ∧ ∀ t ∈ ts, WTr t
  | [], h => ⟨[], rfl, fun a ha => (List.not_mem_nil ha).elim⟩
  | x :: xs, h => by
    obtain ⟨a, rfl, q⟩ := trB_ok (h x List.mem_cons_self)
    obtain ⟨ax, rfl, q2⟩ := trs_of fun y hy => h y (List.mem_cons_of_mem _ hy)
    refine ⟨a :: ax, rfl, fun b hb => ?_⟩
    rcases List.mem_cons.mp hb with rfl | hb
    · exact q
    · exact q2 b hb
theorem trsB_ok {v : D} (h : trsB v = true) : ∃ ts, v = trsD ts ∧ WTs ts := by
  unfold trsB at h
  split at h
  · rename_i xs
    simp only [Bool.and_eq_true, decide_eq_true_eq, List.all_eq_true] at h
    obtain ⟨⟨h1, h2⟩, h3⟩ := h
    obtain ⟨ts, rfl, q⟩ := trs_of h3
    rw [List.length_map] at h1 h2
    exact ⟨ts, rfl, h1, h2, q⟩
  · cases h
def sp_are_trucks (A : Ad) : SpD := fun zs G Q _ => match zs with
  | [v] => Pur v ∧ Q (.bl (trsB v)) G
  | _ => False
theorem len_are_trucks {A : Ad} {zs : List D} {G : GH} {Q : DK} {x : XD} (h : sp_are_trucks A zs G Q x) : zs.length = 1 := by
  unfold sp_are_trucks at h
  split at h <;> first | rfl | exact h.elim
def ds_are_trucks (A : Ad) : DS := dRet (dAndV (dCB rdIsi (dCons (dVar 0) (dCons (dC (.ty "tuple")) dNil))) (dAndV (dChain rdLe rdLe (dC (.int 1)) (dCB rdLen (dCons (dVar 0) dNil)) (dC (.int 4))) (dCB rdAll (dCons (dLc (dISeq (dVar 0)) (gdName 1) dYes (dCall (sp_is_truck A) (dCons (dVar 1) dNil)) [1]) dNil))))
def N_are_trucks : List PySem.Str := ["value", "truck"]
theorem read_are_trucks {A : Ad} {zs : List D} {G : GH} {Q : DK} {x : XD} (h : sp_are_trucks A zs G Q x) : ds_are_trucks A { nx := fun _ G' => Q .non G', rt := Q, xx := fun _ => x } (dstart N_are_trucks zs) G := by
  unfold sp_are_trucks at h
  split at h
  · rename_i v
    obtain ⟨hp, q⟩ := h
    unfold N_are_trucks ds_are_trucks
    simp only [dRet, dRetN, dSeq, dAsg, dDrop, dIfS, dNext, dBreak, dCont, dPar, dSetL, dSetD, dFor, dVar, dC, dOp, dAndV, dOrV, dNotV, dAnd, dOr, dNot, dIf, dTest, dChain, dNil, dCons, dTup, dLst, dLstM, dStar, dNeg, dCB, dCall, dCallK, dMthT, dMth0, dLc, dYes, dISeq, dIStr, dIEnum, dIZip, dIRng1, dIRng2, dSl, dPart, dNoPart, dRaise, dDisp1, dNewD, dRevL, dRevT, dSortSet, dSortSetL, dIRng3, dGet2, dIKeys, dNewT, dSetT, dLstRg, dPar3, dLamA, dLamB, gdName, gdTup, gdCons, gdNil, dstart, dwipe, dAug, rdInt, rdSub, rdLt, rdLe, rdGt, rdGe, rdFdiv, rdMod, rdPow, at0, at1, at2, i30, i31, i32, set0, set1, set2, MO.lst.injEq, gup_same, gup_gup, ad_ii, ad_ss, ad_tt, ad_ll, mu_ii, mu_li, mu_ti, ix_t, ix_l, ix_s, ix_r, ix_w, ln_t, ln_l, ln_s, ln_w, ln_r, sr_t, sr_l, sr_s, sr_r, sl_t, sl_l, sl_s, sl_r, sl_w, tu_t, tu_l, tu_r, li_t, li_l, li_r, lm_t, lm_l, mx2, mn2, ab1, in1, is2, rdIsB, rdNotB, rdIsN, rdNotN, TD.isNon, List.map_cons, List.map_nil, List.length_cons, List.length_nil, List.replicate_succ, List.replicate_zero, List.cons_append, List.nil_append, List.append_nil, Nat.zero_add, Nat.reduceAdd, Nat.reduceSub, Nat.sub_self, Nat.add_sub_cancel, List.getElem?_cons_zero, List.getElem?_cons_succ, List.getElem?_nil, List.set_cons_zero, List.set_cons_succ, List.set_nil, Option.some.injEq, D.int.injEq, D.bl.injEq, D.str.injEq, D.ref.injEq, D.ty.injEq, D.tup.injEq, D.lst.injEq, List.cons.injEq, and_true, true_and, ex_two, ex_two', exists_eq_left', exists_eq_left, exists_and_left, exists_and_right, exists_const, exists_eq_right, exists_eq_right', Bool.not_true, Bool.not_false, if_true, if_false, Bool.false_eq_true, reduceCtorEq, false_and, and_false, decide_true, decide_false, tyD_pur hp, m_tuple]
    cases v with
    | tup xs =>
      simp only [isi_tup, dRet, dRetN, dSeq, dAsg, dDrop, dIfS, dNext, dBreak, dCont, dPar, dSetL, dSetD, dFor, dVar, dC, dOp, dAndV, dOrV, dNotV, dAnd, dOr, dNot, dIf, dTest, dChain, dNil, dCons, dTup, dLst, dLstM, dStar, dNeg, dCB, dCall, dCallK, dMthT, dMth0, dLc, dYes, dISeq, dIStr, dIEnum, dIZip, dIRng1, dIRng2, dSl, dPart, dNoPart, dRaise, dDisp1, dNewD, dRevL, dRevT, dSortSet, dSortSetL, dIRng3, dGet2, dIKeys, dNewT, dSetT, dLstRg, dPar3, dLamA, dLamB, gdName, gdTup, gdCons, gdNil, dstart, dwipe, dAug, rdInt, rdSub, rdLt, rdLe, rdGt, rdGe, rdFdiv, rdMod, rdPow, at0, at1, at2, i30, i31, i32, set0, set1, set2, MO.lst.injEq, gup_same, gup_gup, ad_ii, ad_ss, ad_tt, ad_ll, mu_ii, mu_li, mu_ti, ix_t, ix_l, ix_s, ix_r, ix_w, ln_t, ln_l, ln_s, ln_w, ln_r, sr_t, sr_l, sr_s, sr_r, sl_t, sl_l, sl_s, sl_r, sl_w, tu_t, tu_l, tu_r, li_t, li_l, li_r, lm_t, lm_l, mx2, mn2, ab1, in1, is2, rdIsB, rdNotB, rdIsN, rdNotN, TD.isNon, List.map_cons, List.map_nil, List.length_cons, List.length_nil, List.replicate_succ, List.replicate_zero, List.cons_append, List.nil_append, List.append_nil, Nat.zero_add, Nat.reduceAdd, Nat.reduceSub, Nat.sub_self, Nat.add_sub_cancel, List.getElem?_cons_zero, List.getElem?_cons_succ, List.getElem?_nil, List.set_cons_zero, List.set_cons_succ, List.set_nil, Option.some.injEq, D.int.injEq, D.bl.injEq, D.str.injEq, D.ref.injEq, D.ty.injEq, D.tup.injEq, D.lst.injEq, List.cons.injEq, and_true, true_and, ex_two, ex_two', exists_eq_left', exists_eq_left, exists_and_left, exists_and_right, exists_const, exists_eq_right, exists_eq_right', Bool.not_true, Bool.not_false, if_true, if_false, Bool.false_eq_true, reduceCtorEq, false_and, and_false, decide_true, decide_false]
      simp only [trsB] at q
      by_cases c1 : 1 ≤ xs.length
      · by_cases c2 : xs.length ≤ 4
        · have e1 : (1 : Int) ≤ (xs.length : Int) := by omega
          have e2 : (xs.length : Int) ≤ 4 := by omega
          simp [e1, e2]
          refine dComp_map (fun d => .bl (trB d)) trivial (fun d hd K1 k1 => ?_) ?_
          · simp only [dRet, dRetN, dSeq, dAsg, dDrop, dIfS, dNext, dBreak, dCont, dPar, dSetL, dSetD, dFor, dVar, dC, dOp, dAndV, dOrV, dNotV, dAnd, dOr, dNot, dIf, dTest, dChain, dNil, dCons, dTup, dLst, dLstM, dStar, dNeg, dCB, dCall, dCallK, dMthT, dMth0, dLc, dYes, dISeq, dIStr, dIEnum, dIZip, dIRng1, dIRng2, dSl, dPart, dNoPart, dRaise, dDisp1, dNewD, dRevL, dRevT, dSortSet, dSortSetL, dIRng3, dGet2, dIKeys, dNewT, dSetT, dLstRg, dPar3, dLamA, dLamB, gdName, gdTup, gdCons, gdNil, dstart, dwipe, dAug, rdInt, rdSub, rdLt, rdLe, rdGt, rdGe, rdFdiv, rdMod, rdPow, at0, at1, at2, i30, i31, i32, set0, set1, set2, MO.lst.injEq, gup_same, gup_gup, ad_ii, ad_ss, ad_tt, ad_ll, mu_ii, mu_li, mu_ti, ix_t, ix_l, ix_s, ix_r, ix_w, ln_t, ln_l, ln_s, ln_w, ln_r, sr_t, sr_l, sr_s, sr_r, sl_t, sl_l, sl_s, sl_r, sl_w, tu_t, tu_l, tu_r, li_t, li_l, li_r, lm_t, lm_l, mx2, mn2, ab1, in1, is2, rdIsB, rdNotB, rdIsN, rdNotN, TD.isNon, List.map_cons, List.map_nil, List.length_cons, List.length_nil, List.replicate_succ, List.replicate_zero, List.cons_append, List.nil_append, List.append_nil, Nat.zero_add, Nat.reduceAdd, Nat.reduceSub, Nat.sub_self, Nat.add_sub_cancel, List.getElem?_cons_zero, List.getElem?_cons_succ, List.getElem?_nil, List.set_cons_zero, List.set_cons_succ, List.set_nil, Option.some.injEq, D.int.injEq, D.bl.injEq, D.str.injEq, D.ref.injEq, D.ty.injEq, D.tup.injEq, D.lst.injEq, List.cons.injEq, and_true, true_and, ex_two, ex_two', exists_eq_left', exists_eq_left, exists_and_left, exists_and_right, exists_const, exists_eq_right, exists_eq_right', Bool.not_true, Bool.not_false, if_true, if_false, Bool.false_eq_true, reduceCtorEq, false_and, and_false, decide_true, decide_false]
            exact ⟨pur_tup hp d hd, k1⟩
          · refine ⟨_, _, rfl, by rw [List.nil_append]; exact dBls_of_map _ _, ?_⟩
            rw [all_map_id]
            simpa [c1, c2] using q
        · have e1 : (1 : Int) ≤ (xs.length : Int) := by omega
          have e2 : ¬ (xs.length : Int) ≤ 4 := by omega
          simp [e1, e2]
          simpa [c1, c2] using q
      · have e1 : ¬ (1 : Int) ≤ (xs.length : Int) := by omega
        simp [e1]
        simpa [c1] using q
    | _ => first | (simpa [tyP, isiB, trsB] using q) | (simp [Pur, pureN] at hp)
  · exact h.elim
end K06
namespace K06
open PySem L2 TD
/-! ### fronts -/
abbrev Convoy := List (Nat × Int)
def frD (p : Nat × Int) : D := .tup [.int (p.1 : Int), .int p.2]
def frsD (fs : Convoy) : D := .tup (fs.map frD)
def plB (n : Int) (v : D) : Bool := match v with
  | .tup [a, b] => isIn a 0 (n - 1) && isIn b (-100) 200
  | _ => false
theorem isIn_nat {v : D} {lo hi : Int} (h : isIn v lo hi = true) (h0 : 0 ≤ lo) : ∃ i : Nat, v = .int i ∧ lo ≤ i ∧ (i : Int) ≤ hi := by
  obtain ⟨i, rfl, h1, h2⟩ := isIn_ok h
  refine ⟨i.toNat, ?_, by omega, by omega⟩
  congr 1
  omega
theorem plB_ok {n : Int} {v : D} (h : plB n v = true) : ∃ p : Nat × Int, v = frD p ∧ (p.1 : Int) < n ∧ -100 ≤ p.2 ∧ p.2 ≤ 200 := by
  unfold plB at h
  split at h
  · rename_i a b
    simp only [Bool.and_eq_true] at h
    obtain ⟨i, rfl, h1, h2⟩ := isIn_nat h.1 (by omega)
    obtain ⟨j, rfl, h3, h4⟩ := isIn_ok h.2
    exact ⟨(i, j), rfl, by show (i : Int) < n; omega, h3, h4⟩
  · cases h
def sp_is_place (A : Ad) : SpD := fun zs G Q _ => match zs with
  | [.tup ts, v] => Pur v ∧ Q (.bl (plB ts.length v)) G
  | _ => False
theorem len_is_place {A : Ad} {zs : List D} {G : GH} {Q : DK} {x : XD} (h : sp_is_place A zs G Q x) : zs.length = 2 := by
  unfold sp_is_place at h
  split at h <;> first | rfl | exact h.elim
def ds_is_place (A : Ad) : DS := dSeq (dIfS (dOr (dNot (dTest (dCB rdIsi (dCons (dVar 1) (dCons (dC (.ty "tuple")) dNil))))) (dOr (dTest (dOp rdNe (dCB rdLen (dCons (dVar 1) dNil)) (dC (.int 2)))) (dNot (dTest (dCall (sp_is_in A) (dCons (dOp rdIx (dVar 1) (dC (.int 0))) (dCons (dC (.int 0)) (dCons (dOp rdSub (dCB rdLen (dCons (dVar 0) dNil)) (dC (.int 1))) dNil)))))))) (dRet (dC (.bl false))) dNext) (dRet (dCall (sp_is_in A) (dCons (dOp rdIx (dVar 1) (dC (.int 1))) (dCons (dC (.int (-100))) (dCons (dC (.int 200)) dNil)))))
def N_is_place : List PySem.Str := ["trucks", "value"]
theorem read_is_place {A : Ad} {zs : List D} {G : GH} {Q : DK} {x : XD} (h : sp_is_place A zs G Q x) : ds_is_place A { nx := fun _ G' => Q .non G', rt := Q, xx := fun _ => x } (dstart N_is_place zs) G := by
  unfold sp_is_place at h
  split at h
  · rename_i ts v
    obtain ⟨hp, q⟩ := h
    unfold N_is_place ds_is_place
    simp only [dRet, dRetN, dSeq, dAsg, dDrop, dIfS, dNext, dBreak, dCont, dPar, dSetL, dSetD, dFor, dVar, dC, dOp, dAndV, dOrV, dNotV, dAnd, dOr, dNot, dIf, dTest, dChain, dNil, dCons, dTup, dLst, dLstM, dStar, dNeg, dCB, dCall, dCallK, dMthT, dMth0, dLc, dYes, dISeq, dIStr, dIEnum, dIZip, dIRng1, dIRng2, dSl, dPart, dNoPart, dRaise, dDisp1, dNewD, dRevL, dRevT, dSortSet, dSortSetL, dIRng3, dGet2, dIKeys, dNewT, dSetT, dLstRg, dPar3, dLamA, dLamB, gdName, gdTup, gdCons, gdNil, dstart, dwipe, dAug, rdInt, rdSub, rdLt, rdLe, rdGt, rdGe, rdFdiv, rdMod, rdPow, at0, at1, at2, i30, i31, i32, set0, set1, set2, MO.lst.injEq, gup_same, gup_gup, ad_ii, ad_ss, ad_tt, ad_ll, mu_ii, mu_li, mu_ti, ix_t, ix_l, ix_s, ix_r, ix_w, ln_t, ln_l, ln_s, ln_w, ln_r, sr_t, sr_l, sr_s, sr_r, sl_t, sl_l, sl_s, sl_r, sl_w, tu_t, tu_l, tu_r, li_t, li_l, li_r, lm_t, lm_l, mx2, mn2, ab1, in1, is2, rdIsB, rdNotB, rdIsN, rdNotN, TD.isNon, List.map_cons, List.map_nil, List.length_cons, List.length_nil, List.replicate_succ, List.replicate_zero, List.cons_append, List.nil_append, List.append_nil, Nat.zero_add, Nat.reduceAdd, Nat.reduceSub, Nat.sub_self, Nat.add_sub_cancel, List.getElem?_cons_zero, List.getElem?_cons_succ, List.getElem?_nil, List.set_cons_zero, List.set_cons_succ, List.set_nil, Option.some.injEq, D.int.injEq, D.bl.injEq, D.str.injEq, D.ref.injEq, D.ty.injEq, D.tup.injEq, D.lst.injEq, List.cons.injEq, and_true, true_and, ex_two, ex_two', exists_eq_left', exists_eq_left, exists_and_left, exists_and_right, exists_const, exists_eq_right, exists_eq_right', Bool.not_true, Bool.not_false, if_true, if_false, Bool.false_eq_true, reduceCtorEq, false_and, and_false, decide_true, decide_false, tyD_pur hp, m_tuple]
    cases v with
    | tup xs =>
      simp only [isi_tup, dRet, dRetN, dSeq, dAsg, dDrop, dIfS, dNext, dBreak, dCont, dPar, dSetL, dSetD, dFor, dVar, dC, dOp, dAndV, dOrV, dNotV, dAnd, dOr, dNot, dIf, dTest, dChain, dNil, dCons, dTup, dLst, dLstM, dStar, dNeg, dCB, dCall, dCallK, dMthT, dMth0, dLc, dYes, dISeq, dIStr, dIEnum, dIZip, dIRng1, dIRng2, dSl, dPart, dNoPart, dRaise, dDisp1, dNewD, dRevL, dRevT, dSortSet, dSortSetL, dIRng3, dGet2, dIKeys, dNewT, dSetT, dLstRg, dPar3, dLamA, dLamB, gdName, gdTup, gdCons, gdNil, dstart, dwipe, dAug, rdInt, rdSub, rdLt, rdLe, rdGt, rdGe, rdFdiv, rdMod, rdPow, at0, at1, at2, i30, i31, i32, set0, set1, set2, MO.lst.injEq, gup_same, gup_gup, ad_ii, ad_ss, ad_tt, ad_ll, mu_ii, mu_li, mu_ti, ix_t, ix_l, ix_s, ix_r, ix_w, ln_t, ln_l, ln_s, ln_w, ln_r, sr_t, sr_l, sr_s, sr_r, sl_t, sl_l, sl_s, sl_r, sl_w, tu_t, tu_l, tu_r, li_t, li_l, li_r, lm_t, lm_l, mx2, mn2, ab1, in1, is2, rdIsB, rdNotB, rdIsN, rdNotN, TD.isNon, List.map_cons, List.map_nil, List.length_cons, List.length_nil, List.replicate_succ, List.replicate_zero, List.cons_append, List.nil_append, List.append_nil, Nat.zero_add, Nat.reduceAdd, Nat.reduceSub, Nat.sub_self, Nat.add_sub_cancel, List.getElem?_cons_zero, List.getElem?_cons_succ, List.getElem?_nil, List.set_cons_zero, List.set_cons_succ, List.set_nil, Option.some.injEq, D.int.injEq, D.bl.injEq, D.str.injEq, D.ref.injEq, D.ty.injEq, D.tup.injEq, D.lst.injEq, List.cons.injEq, and_true, true_and, ex_two, ex_two', exists_eq_left', exists_eq_left, exists_and_left, exists_and_right, exists_const, exists_eq_right, exists_eq_right', Bool.not_true, Bool.not_false, if_true, if_false, Bool.false_eq_true, reduceCtorEq, false_and, and_false, decide_true, decide_false]
      refine ne_pur (pur_int _) (pur_int _) ?_
      rw [deq_in]
      refine ⟨_, rfl, ?_⟩
      by_cases c : ((xs.length : Nat) : Int) = 2
      · obtain ⟨a, b, rfl⟩ := two_of c
        have hpa := pur_tup hp a (by simp)
        have hpb := pur_tup hp b (by simp)
        simp only [c, decide_true, Bool.not_true, Bool.false_eq_true, if_false, dRet, dRetN, dSeq, dAsg, dDrop, dIfS, dNext, dBreak, dCont, dPar, dSetL, dSetD, dFor, dVar, dC, dOp, dAndV, dOrV, dNotV, dAnd, dOr, dNot, dIf, dTest, dChain, dNil, dCons, dTup, dLst, dLstM, dStar, dNeg, dCB, dCall, dCallK, dMthT, dMth0, dLc, dYes, dISeq, dIStr, dIEnum, dIZip, dIRng1, dIRng2, dSl, dPart, dNoPart, dRaise, dDisp1, dNewD, dRevL, dRevT, dSortSet, dSortSetL, dIRng3, dGet2, dIKeys, dNewT, dSetT, dLstRg, dPar3, dLamA, dLamB, gdName, gdTup, gdCons, gdNil, dstart, dwipe, dAug, rdInt, rdSub, rdLt, rdLe, rdGt, rdGe, rdFdiv, rdMod, rdPow, at0, at1, at2, i30, i31, i32, set0, set1, set2, MO.lst.injEq, gup_same, gup_gup, ad_ii, ad_ss, ad_tt, ad_ll, mu_ii, mu_li, mu_ti, ix_t, ix_l, ix_s, ix_r, ix_w, ln_t, ln_l, ln_s, ln_w, ln_r, sr_t, sr_l, sr_s, sr_r, sl_t, sl_l, sl_s, sl_r, sl_w, tu_t, tu_l, tu_r, li_t, li_l, li_r, lm_t, lm_l, mx2, mn2, ab1, in1, is2, rdIsB, rdNotB, rdIsN, rdNotN, TD.isNon, List.map_cons, List.map_nil, List.length_cons, List.length_nil, List.replicate_succ, List.replicate_zero, List.cons_append, List.nil_append, List.append_nil, Nat.zero_add, Nat.reduceAdd, Nat.reduceSub, Nat.sub_self, Nat.add_sub_cancel, List.getElem?_cons_zero, List.getElem?_cons_succ, List.getElem?_nil, List.set_cons_zero, List.set_cons_succ, List.set_nil, Option.some.injEq, D.int.injEq, D.bl.injEq, D.str.injEq, D.ref.injEq, D.ty.injEq, D.tup.injEq, D.lst.injEq, List.cons.injEq, and_true, true_and, ex_two, ex_two', exists_eq_left', exists_eq_left, exists_and_left, exists_and_right, exists_const, exists_eq_right, exists_eq_right', Bool.not_true, Bool.not_false, if_true, if_false, Bool.false_eq_true, reduceCtorEq, false_and, and_false, decide_true, decide_false]
        refine ⟨hpa, _, rfl, ?_⟩
        simp only [plB] at q
        cases h1 : isIn a 0 ((ts.length : Int) - 1) with
        | false =>
          rw [h1] at q
          simpa using q
        | true =>
          rw [h1] at q
          simp only [Bool.not_true, Bool.false_eq_true, if_false, dRet, dRetN, dSeq, dAsg, dDrop, dIfS, dNext, dBreak, dCont, dPar, dSetL, dSetD, dFor, dVar, dC, dOp, dAndV, dOrV, dNotV, dAnd, dOr, dNot, dIf, dTest, dChain, dNil, dCons, dTup, dLst, dLstM, dStar, dNeg, dCB, dCall, dCallK, dMthT, dMth0, dLc, dYes, dISeq, dIStr, dIEnum, dIZip, dIRng1, dIRng2, dSl, dPart, dNoPart, dRaise, dDisp1, dNewD, dRevL, dRevT, dSortSet, dSortSetL, dIRng3, dGet2, dIKeys, dNewT, dSetT, dLstRg, dPar3, dLamA, dLamB, gdName, gdTup, gdCons, gdNil, dstart, dwipe, dAug, rdInt, rdSub, rdLt, rdLe, rdGt, rdGe, rdFdiv, rdMod, rdPow, at0, at1, at2, i30, i31, i32, set0, set1, set2, MO.lst.injEq, gup_same, gup_gup, ad_ii, ad_ss, ad_tt, ad_ll, mu_ii, mu_li, mu_ti, ix_t, ix_l, ix_s, ix_r, ix_w, ln_t, ln_l, ln_s, ln_w, ln_r, sr_t, sr_l, sr_s, sr_r, sl_t, sl_l, sl_s, sl_r, sl_w, tu_t, tu_l, tu_r, li_t, li_l, li_r, lm_t, lm_l, mx2, mn2, ab1, in1, is2, rdIsB, rdNotB, rdIsN, rdNotN, TD.isNon, List.map_cons, List.map_nil, List.length_cons, List.length_nil, List.replicate_succ, List.replicate_zero, List.cons_append, List.nil_append, List.append_nil, Nat.zero_add, Nat.reduceAdd, Nat.reduceSub, Nat.sub_self, Nat.add_sub_cancel, List.getElem?_cons_zero, List.getElem?_cons_succ, List.getElem?_nil, List.set_cons_zero, List.set_cons_succ, List.set_nil, Option.some.injEq, D.int.injEq, D.bl.injEq, D.str.injEq, D.ref.injEq, D.ty.injEq, D.tup.injEq, D.lst.injEq, List.cons.injEq, and_true, true_and, ex_two, ex_two', exists_eq_left', exists_eq_left, exists_and_left, exists_and_right, exists_const, exists_eq_right, exists_eq_right', Bool.not_true, Bool.not_false, if_true, if_false, Bool.false_eq_true, reduceCtorEq, false_and, and_false, decide_true, decide_false]
          exact ⟨hpb, by simpa using q⟩
      · simp only [c, decide_false, Bool.not_false, if_true]
        have e : plB ts.length (.tup xs) = false := by
          unfold plB
          split
          · rename_i a b e; injection e with e; subst e; simp at c
          · rfl
        rw [e] at q
        exact q
    | _ => first | (simpa [tyP, isiB, plB] using q) | (simp [Pur, pureN] at hp)
  · exact h.elim
def frB (n : Int) (v : D) : Bool := match v with
  | .tup xs => decide (xs.length ≤ 200) && xs.all (plB n)
  | _ => false
theorem frs_of {n : Int} : ∀ {xs : List D}, (∀ x ∈ xs, plB n x = true) → ∃ fs : Convoy, xs = fs.map frD ∧ ∀ p ∈ fs, (p.1 : Int) < n ∧ -100 ≤ p.2 ∧ p.2 ≤ 200
  | [], h => ⟨[], rfl, fun a ha => (List.not_mem_nil ha).elim⟩
  | x :: xs, h => by
    obtain ⟨a, rfl, q⟩ := plB_ok (h x List.mem_cons_self)
    obtain ⟨ax, rfl, q2⟩ := frs_of fun y hy => h y (List.mem_cons_of_mem _ hy)
    refine ⟨a :: ax, rfl, fun b hb => ?_⟩
    rcases List.mem_cons.mp hb with rfl | hb
    · exact q
    · exact q2 b hb
theorem frB_ok {n : Int} {v : D} (h : frB n v = true) : ∃ fs, v = frsD fs ∧ fs.length ≤ 200 ∧ ∀ p ∈ fs, (p.1 : Int) < n ∧ -100 ≤ p.2 ∧ p.2 ≤ 200 := by
  unfold frB at h
  split at h
  · rename_i xs
    simp only [Bool.and_eq_true, decide_eq_true_eq, List.all_eq_true] at h
    obtain ⟨fs, rfl, q⟩ := frs_of h.2
    refine ⟨fs, rfl, ?_, q⟩
    have := h.1
    rw [List.length_map] at this
    exact this
  · cases h
theorem plB_fr {n : Int} {p : Nat × Int} (h1 : (p.1 : Int) < n) (h2 : -100 ≤ p.2) (h3 : p.2 ≤ 200) : plB n (frD p) = true := by
  simp only [plB, frD, isIn, Bool.and_eq_true, decide_eq_true_eq]
  exact ⟨⟨by omega, by omega⟩, h2, h3⟩
theorem frB_frs {n : Int} {fs : Convoy} (hl : fs.length ≤ 200) (h : ∀ p ∈ fs, (p.1 : Int) < n ∧ -100 ≤ p.2 ∧ p.2 ≤ 200) : frB n (frsD fs) = true := by
  simp only [frB, frsD, Bool.and_eq_true, decide_eq_true_eq, List.length_map, List.all_eq_true]
  refine ⟨hl, fun x hx => ?_⟩
  obtain ⟨p, hp, rfl⟩ := List.mem_map.mp hx
  obtain ⟨a, b, c⟩ := h p hp
  exact plB_fr a b c
def sp_are_fronts (A : Ad) : SpD := fun zs G Q _ => match zs with
  | [.tup ts, v] => Pur v ∧ Q (.bl (frB ts.length v)) G
  | _ => False
theorem len_are_fronts {A : Ad} {zs : List D} {G : GH} {Q : DK} {x : XD} (h : sp_are_fronts A zs G Q x) : zs.length = 2 := by
  unfold sp_are_fronts at h
  split at h <;> first | rfl | exact h.elim
def ds_are_fronts (A : Ad) : DS := dRet (dAndV (dCB rdIsi (dCons (dVar 1) (dCons (dC (.ty "tuple")) dNil))) (dAndV (dOp rdLe (dCB rdLen (dCons (dVar 1) dNil)) (dC (.int 200))) (dCB rdAll (dCons (dLc (dISeq (dVar 1)) (gdName 2) dYes (dCall (sp_is_place A) (dCons (dVar 0) (dCons (dVar 2) dNil))) [2]) dNil))))
def N_are_fronts : List PySem.Str := ["trucks", "value", "place"]
theorem read_are_fronts {A : Ad} {zs : List D} {G : GH} {Q : DK} {x : XD} (h : sp_are_fronts A zs G Q x) : ds_are_fronts A { nx := fun _ G' => Q .non G', rt := Q, xx := fun _ => x } (dstart N_are_fronts zs) G := by
  unfold sp_are_fronts at h
  split at h
  · rename_i ts v
    obtain ⟨hp, q⟩ := h
    unfold N_are_fronts ds_are_fronts
    simp only [dRet, dRetN, dSeq, dAsg, dDrop, dIfS, dNext, dBreak, dCont, dPar, dSetL, dSetD, dFor, dVar, dC, dOp, dAndV, dOrV, dNotV, dAnd, dOr, dNot, dIf, dTest, dChain, dNil, dCons, dTup, dLst, dLstM, dStar, dNeg, dCB, dCall, dCallK, dMthT, dMth0, dLc, dYes, dISeq, dIStr, dIEnum, dIZip, dIRng1, dIRng2, dSl, dPart, dNoPart, dRaise, dDisp1, dNewD, dRevL, dRevT, dSortSet, dSortSetL, dIRng3, dGet2, dIKeys, dNewT, dSetT, dLstRg, dPar3, dLamA, dLamB, gdName, gdTup, gdCons, gdNil, dstart, dwipe, dAug, rdInt, rdSub, rdLt, rdLe, rdGt, rdGe, rdFdiv, rdMod, rdPow, at0, at1, at2, i30, i31, i32, set0, set1, set2, MO.lst.injEq, gup_same, gup_gup, ad_ii, ad_ss, ad_tt, ad_ll, mu_ii, mu_li, mu_ti, ix_t, ix_l, ix_s, ix_r, ix_w, ln_t, ln_l, ln_s, ln_w, ln_r, sr_t, sr_l, sr_s, sr_r, sl_t, sl_l, sl_s, sl_r, sl_w, tu_t, tu_l, tu_r, li_t, li_l, li_r, lm_t, lm_l, mx2, mn2, ab1, in1, is2, rdIsB, rdNotB, rdIsN, rdNotN, TD.isNon, List.map_cons, List.map_nil, List.length_cons, List.length_nil, List.replicate_succ, List.replicate_zero, List.cons_append, List.nil_append, List.append_nil, Nat.zero_add, Nat.reduceAdd, Nat.reduceSub, Nat.sub_self, Nat.add_sub_cancel, List.getElem?_cons_zero, List.getElem?_cons_succ, List.getElem?_nil, List.set_cons_zero, List.set_cons_succ, List.set_nil, Option.some.injEq, D.int.injEq, D.bl.injEq, D.str.injEq, D.ref.injEq, D.ty.injEq, D.tup.injEq, D.lst.injEq, List.cons.injEq, and_true, true_and, ex_two, ex_two', exists_eq_left', exists_eq_left, exists_and_left, exists_and_right, exists_const, exists_eq_right, exists_eq_right', Bool.not_true, Bool.not_false, if_true, if_false, Bool.false_eq_true, reduceCtorEq, false_and, and_false, decide_true, decide_false, tyD_pur hp, m_tuple]
    cases v with
    | tup xs =>
      simp only [isi_tup, dRet, dRetN, dSeq, dAsg, dDrop, dIfS, dNext, dBreak, dCont, dPar, dSetL, dSetD, dFor, dVar, dC, dOp, dAndV, dOrV, dNotV, dAnd, dOr, dNot, dIf, dTest, dChain, dNil, dCons, dTup, dLst, dLstM, dStar, dNeg, dCB, dCall, dCallK, dMthT, dMth0, dLc, dYes, dISeq, dIStr, dIEnum, dIZip, dIRng1, dIRng2, dSl, dPart, dNoPart, dRaise, dDisp1, dNewD, dRevL, dRevT, dSortSet, dSortSetL, dIRng3, dGet2, dIKeys, dNewT, dSetT, dLstRg, dPar3, dLamA, dLamB, gdName, gdTup, gdCons, gdNil, dstart, dwipe, dAug, rdInt, rdSub, rdLt, rdLe, rdGt, rdGe, rdFdiv, rdMod, rdPow, at0, at1, at2, i30, i31, i32, set0, set1, set2, MO.lst.injEq, gup_same, gup_gup, ad_ii, ad_ss, ad_tt, ad_ll, mu_ii, mu_li, mu_ti, ix_t, ix_l, ix_s, ix_r, ix_w, ln_t, ln_l, ln_s, ln_w, ln_r, sr_t, sr_l, sr_s, sr_r, sl_t, sl_l, sl_s, sl_r, sl_w, tu_t, tu_l, tu_r, li_t, li_l, li_r, lm_t, lm_l, mx2, mn2, ab1, in1, is2, rdIsB, rdNotB, rdIsN, rdNotN, TD.isNon, List.map_cons, List.map_nil, List.length_cons, List.length_nil, List.replicate_succ, List.replicate_zero, List.cons_append, List.nil_append, List.append_nil, Nat.zero_add, Nat.reduceAdd, Nat.reduceSub, Nat.sub_self, Nat.add_sub_cancel, List.getElem?_cons_zero, List.getElem?_cons_succ, List.getElem?_nil, List.set_cons_zero, List.set_cons_succ, List.set_nil, Option.some.injEq, D.int.injEq, D.bl.injEq, D.str.injEq, D.ref.injEq, D.ty.injEq, D.tup.injEq, D.lst.injEq, List.cons.injEq, and_true, true_and, ex_two, ex_two', exists_eq_left', exists_eq_left, exists_and_left, exists_and_right, exists_const, exists_eq_right, exists_eq_right', Bool.not_true, Bool.not_false, if_true, if_false, Bool.false_eq_true, reduceCtorEq, false_and, and_false, decide_true, decide_false]
      simp only [frB] at q
      by_cases c1 : xs.length ≤ 200
      · have e1 : (xs.length : Int) ≤ 200 := by omega
        simp [e1]
        refine dComp_map (fun d => .bl (plB ts.length d)) trivial (fun d hd K1 k1 => ?_) ?_
        · simp only [dRet, dRetN, dSeq, dAsg, dDrop, dIfS, dNext, dBreak, dCont, dPar, dSetL, dSetD, dFor, dVar, dC, dOp, dAndV, dOrV, dNotV, dAnd, dOr, dNot, dIf, dTest, dChain, dNil, dCons, dTup, dLst, dLstM, dStar, dNeg, dCB, dCall, dCallK, dMthT, dMth0, dLc, dYes, dISeq, dIStr, dIEnum, dIZip, dIRng1, dIRng2, dSl, dPart, dNoPart, dRaise, dDisp1, dNewD, dRevL, dRevT, dSortSet, dSortSetL, dIRng3, dGet2, dIKeys, dNewT, dSetT, dLstRg, dPar3, dLamA, dLamB, gdName, gdTup, gdCons, gdNil, dstart, dwipe, dAug, rdInt, rdSub, rdLt, rdLe, rdGt, rdGe, rdFdiv, rdMod, rdPow, at0, at1, at2, i30, i31, i32, set0, set1, set2, MO.lst.injEq, gup_same, gup_gup, ad_ii, ad_ss, ad_tt, ad_ll, mu_ii, mu_li, mu_ti, ix_t, ix_l, ix_s, ix_r, ix_w, ln_t, ln_l, ln_s, ln_w, ln_r, sr_t, sr_l, sr_s, sr_r, sl_t, sl_l, sl_s, sl_r, sl_w, tu_t, tu_l, tu_r, li_t, li_l, li_r, lm_t, lm_l, mx2, mn2, ab1, in1, is2, rdIsB, rdNotB, rdIsN, rdNotN, TD.isNon, List.map_cons, List.map_nil, List.length_cons, List.length_nil, List.replicate_succ, List.replicate_zero, List.cons_append, List.nil_append, List.append_nil, Nat.zero_add, Nat.reduceAdd, Nat.reduceSub, Nat.sub_self, Nat.add_sub_cancel, List.getElem?_cons_zero, List.getElem?_cons_succ, List.getElem?_nil, List.set_cons_zero, List.set_cons_succ, List.set_nil, Option.some.injEq, D.int.injEq, D.bl.injEq, D.str.injEq, D.ref.injEq, D.ty.injEq, D.tup.injEq, D.lst.injEq, List.cons.injEq, and_true, true_and, ex_two, ex_two', exists_eq_left', exists_eq_left, exists_and_left, exists_and_right, exists_const, exists_eq_right, exists_eq_right', Bool.not_true, Bool.not_false, if_true, if_false, Bool.false_eq_true, reduceCtorEq, false_and, and_false, decide_true, decide_false]
          exact ⟨pur_tup hp d hd, k1⟩
        · refine ⟨_, _, rfl, by rw [List.nil_append]; exact dBls_of_map _ _, ?_⟩
          rw [all_map_id]
          simpa [c1] using q
      · have e1 : ¬ (xs.length : Int) ≤ 200 := by omega
        simp [e1]
        simpa [c1] using q
    | _ => first | (simpa [tyP, isiB, frB] using q) | (simp [Pur, pureN] at hp)
  · exact h.elim
/-! ### loads -/
def isOn (span front : Int) (a : Int × Int) : Bool := decide (0 ≤ front + a.1) && decide (front + a.1 ≤ span)
def onW (t : Truck) (span front : Int) : Int := ((t.ax.filter (isOn span front)).map (·.2)).sum
def tOf (ts : Trucks) (i : Nat) : Truck := ts.getD i ⟨0, []⟩
def loadW (ts : Trucks) (span : Int) (fs : Convoy) : Int := (fs.map fun p => onW (tOf ts p.1) span p.2).sum
def sp_weight_on (A : Ad) : SpD := fun zs G Q _ => match zs with
  | [v, .int span, .int front] => ∃ t, v = trD t ∧ Q (.int (onW t span front)) G
  | _ => False
theorem len_weight_on {A : Ad} {zs : List D} {G : GH} {Q : DK} {x : XD} (h : sp_weight_on A zs G Q x) : zs.length = 3 := by
  unfold sp_weight_on at h
  split at h <;> first | rfl | exact h.elim
def ds_weight_on (A : Ad) : DS := dRet (dCB rdSum (dCons (dLc (dISeq (dOp rdIx (dVar 0) (dC (.int 1)))) (gdTup (gdCons (gdName 3) (gdCons (gdName 4) gdNil)) 2) (dTest (dChain rdLe rdLe (dC (.int 0)) (dOp rdAdd (dVar 2) (dVar 3)) (dVar 1))) (dVar 4) [3, 4]) dNil))
def N_weight_on : List PySem.Str := ["truck", "span", "front", "place", "weight"]
def onD (span front : Int) (d : D) : Bool := match d with
  | .tup [.int p, .int w] => isOn span front (p, w)
  | _ => false
def sndD (d : D) : D := match d with
  | .tup [_, b] => b
  | _ => .non
theorem filter_ax (span front : Int) (ax : List (Int × Int)) : ((ax.map axD).filter (onD span front)).map sndD = ((ax.filter (isOn span front)).map (·.2)).map D.int := by
  induction ax with
  | nil => rfl
  | cons a r ih =>
    rw [List.map_cons]
    by_cases h : isOn span front a = true
    · have h2 : onD span front (axD a) = true := h
      rw [List.filter_cons_of_pos h, List.filter_cons_of_pos h2, List.map_cons, List.map_cons, List.map_cons, ih]
      rfl
    · have h2 : ¬ onD span front (axD a) = true := h
      rw [List.filter_cons_of_neg h, List.filter_cons_of_neg h2, ih]
theorem read_weight_on {A : Ad} {zs : List D} {G : GH} {Q : DK} {x : XD} (h : sp_weight_on A zs G Q x) : ds_weight_on A { nx := fun _ G' => Q .non G', rt := Q, xx := fun _ => x } (dstart N_weight_on zs) G := by
  unfold sp_weight_on at h
  split at h
  · rename_i v span front
    obtain ⟨t, rfl, q⟩ := h
    unfold N_weight_on ds_weight_on trD
    simp only [dRet, dRetN, dSeq, dAsg, dDrop, dIfS, dNext, dBreak, dCont, dPar, dSetL, dSetD, dFor, dVar, dC, dOp, dAndV, dOrV, dNotV, dAnd, dOr, dNot, dIf, dTest, dChain, dNil, dCons, dTup, dLst, dLstM, dStar, dNeg, dCB, dCall, dCallK, dMthT, dMth0, dLc, dYes, dISeq, dIStr, dIEnum, dIZip, dIRng1, dIRng2, dSl, dPart, dNoPart, dRaise, dDisp1, dNewD, dRevL, dRevT, dSortSet, dSortSetL, dIRng3, dGet2, dIKeys, dNewT, dSetT, dLstRg, dPar3, dLamA, dLamB, gdName, gdTup, gdCons, gdNil, dstart, dwipe, dAug, rdInt, rdSub, rdLt, rdLe, rdGt, rdGe, rdFdiv, rdMod, rdPow, at0, at1, at2, i30, i31, i32, set0, set1, set2, MO.lst.injEq, gup_same, gup_gup, ad_ii, ad_ss, ad_tt, ad_ll, mu_ii, mu_li, mu_ti, ix_t, ix_l, ix_s, ix_r, ix_w, ln_t, ln_l, ln_s, ln_w, ln_r, sr_t, sr_l, sr_s, sr_r, sl_t, sl_l, sl_s, sl_r, sl_w, tu_t, tu_l, tu_r, li_t, li_l, li_r, lm_t, lm_l, mx2, mn2, ab1, in1, is2, rdIsB, rdNotB, rdIsN, rdNotN, TD.isNon, List.map_cons, List.map_nil, List.length_cons, List.length_nil, List.replicate_succ, List.replicate_zero, List.cons_append, List.nil_append, List.append_nil, Nat.zero_add, Nat.reduceAdd, Nat.reduceSub, Nat.sub_self, Nat.add_sub_cancel, List.getElem?_cons_zero, List.getElem?_cons_succ, List.getElem?_nil, List.set_cons_zero, List.set_cons_succ, List.set_nil, Option.some.injEq, D.int.injEq, D.bl.injEq, D.str.injEq, D.ref.injEq, D.ty.injEq, D.tup.injEq, D.lst.injEq, List.cons.injEq, and_true, true_and, ex_two, ex_two', exists_eq_left', exists_eq_left, exists_and_left, exists_and_right, exists_const, exists_eq_right, exists_eq_right', Bool.not_true, Bool.not_false, if_true, if_false, Bool.false_eq_true, reduceCtorEq, false_and, and_false, decide_true, decide_false]
    refine dComp_filter (onD span front) sndD trivial (fun d hd K1 k1 => ?_) ?_
    · obtain ⟨a, ha, rfl⟩ := List.mem_map.mp hd
      simp only [axD, onD, isOn, sndD, dRet, dRetN, dSeq, dAsg, dDrop, dIfS, dNext, dBreak, dCont, dPar, dSetL, dSetD, dFor, dVar, dC, dOp, dAndV, dOrV, dNotV, dAnd, dOr, dNot, dIf, dTest, dChain, dNil, dCons, dTup, dLst, dLstM, dStar, dNeg, dCB, dCall, dCallK, dMthT, dMth0, dLc, dYes, dISeq, dIStr, dIEnum, dIZip, dIRng1, dIRng2, dSl, dPart, dNoPart, dRaise, dDisp1, dNewD, dRevL, dRevT, dSortSet, dSortSetL, dIRng3, dGet2, dIKeys, dNewT, dSetT, dLstRg, dPar3, dLamA, dLamB, gdName, gdTup, gdCons, gdNil, dstart, dwipe, dAug, rdInt, rdSub, rdLt, rdLe, rdGt, rdGe, rdFdiv, rdMod, rdPow, at0, at1, at2, i30, i31, i32, set0, set1, set2, MO.lst.injEq, gup_same, gup_gup, ad_ii, ad_ss, ad_tt, ad_ll, mu_ii, mu_li, mu_ti, ix_t, ix_l, ix_s, ix_r, ix_w, ln_t, ln_l, ln_s, ln_w, ln_r, sr_t, sr_l, sr_s, sr_r, sl_t, sl_l, sl_s, sl_r, sl_w, tu_t, tu_l, tu_r, li_t, li_l, li_r, lm_t, lm_l, mx2, mn2, ab1, in1, is2, rdIsB, rdNotB, rdIsN, rdNotN, TD.isNon, List.map_cons, List.map_nil, List.length_cons, List.length_nil, List.replicate_succ, List.replicate_zero, List.cons_append, List.nil_append, List.append_nil, Nat.zero_add, Nat.reduceAdd, Nat.reduceSub, Nat.sub_self, Nat.add_sub_cancel, List.getElem?_cons_zero, List.getElem?_cons_succ, List.getElem?_nil, List.set_cons_zero, List.set_cons_succ, List.set_nil, Option.some.injEq, D.int.injEq, D.bl.injEq, D.str.injEq, D.ref.injEq, D.ty.injEq, D.tup.injEq, D.lst.injEq, List.cons.injEq, and_true, true_and, ex_two, ex_two', exists_eq_left', exists_eq_left, exists_and_left, exists_and_right, exists_const, exists_eq_right, exists_eq_right', Bool.not_true, Bool.not_false, if_true, if_false, Bool.false_eq_true, reduceCtorEq, false_and, and_false, decide_true, decide_false] at k1 ⊢
      by_cases c1 : 0 ≤ front + a.1
      · by_cases c2 : front + a.1 ≤ span
        · simpa [c1, c2] using k1
        · simpa [c1, c2] using k1
      · simpa [c1] using k1
    · rw [List.nil_append, filter_ax]
      exact ⟨_, _, rfl, dInts_map _, q⟩
  · exact h.elim
def sp_load_of (A : Ad) : SpD := fun zs G Q _ => match zs with
  | [v, .int span, w] => ∃ ts fs, v = trsD ts ∧ w = frsD fs ∧ (∀ p ∈ fs, p.1 < ts.length) ∧ Q (.int (loadW ts span fs)) G
  | _ => False
theorem len_load_of {A : Ad} {zs : List D} {G : GH} {Q : DK} {x : XD} (h : sp_load_of A zs G Q x) : zs.length = 3 := by
  unfold sp_load_of at h
  split at h <;> first | rfl | exact h.elim
def ds_load_of (A : Ad) : DS := dRet (dCB rdSum (dCons (dLc (dISeq (dVar 2)) (gdTup (gdCons (gdName 3) (gdCons (gdName 4) gdNil)) 2) dYes (dCall (sp_weight_on A) (dCons (dOp rdIx (dVar 0) (dVar 3)) (dCons (dVar 1) (dCons (dVar 4) dNil)))) [3, 4]) dNil))
def N_load_of : List PySem.Str := ["trucks", "span", "fronts", "truck", "front"]
theorem tOf_at {ts : Trucks} {i : Nat} (h : i < ts.length) : atI (ts.map trD) (i : Int) = some (trD (tOf ts i)) := by
  refine atI_map_nat ?_
  unfold tOf
  rw [List.getD_eq_getElem?_getD, List.getElem?_eq_getElem h]
  rfl
theorem read_load_of {A : Ad} {zs : List D} {G : GH} {Q : DK} {x : XD} (h : sp_load_of A zs G Q x) : ds_load_of A { nx := fun _ G' => Q .non G', rt := Q, xx := fun _ => x } (dstart N_load_of zs) G := by
  unfold sp_load_of at h
  split at h
  · rename_i v span w
    obtain ⟨ts, fs, rfl, rfl, hi, q⟩ := h
    unfold N_load_of ds_load_of trsD frsD
    simp only [dRet, dRetN, dSeq, dAsg, dDrop, dIfS, dNext, dBreak, dCont, dPar, dSetL, dSetD, dFor, dVar, dC, dOp, dAndV, dOrV, dNotV, dAnd, dOr, dNot, dIf, dTest, dChain, dNil, dCons, dTup, dLst, dLstM, dStar, dNeg, dCB, dCall, dCallK, dMthT, dMth0, dLc, dYes, dISeq, dIStr, dIEnum, dIZip, dIRng1, dIRng2, dSl, dPart, dNoPart, dRaise, dDisp1, dNewD, dRevL, dRevT, dSortSet, dSortSetL, dIRng3, dGet2, dIKeys, dNewT, dSetT, dLstRg, dPar3, dLamA, dLamB, gdName, gdTup, gdCons, gdNil, dstart, dwipe, dAug, rdInt, rdSub, rdLt, rdLe, rdGt, rdGe, rdFdiv, rdMod, rdPow, at0, at1, at2, i30, i31, i32, set0, set1, set2, MO.lst.injEq, gup_same, gup_gup, ad_ii, ad_ss, ad_tt, ad_ll, mu_ii, mu_li, mu_ti, ix_t, ix_l, ix_s, ix_r, ix_w, ln_t, ln_l, ln_s, ln_w, ln_r, sr_t, sr_l, sr_s, sr_r, sl_t, sl_l, sl_s, sl_r, sl_w, tu_t, tu_l, tu_r, li_t, li_l, li_r, lm_t, lm_l, mx2, mn2, ab1, in1, is2, rdIsB, rdNotB, rdIsN, rdNotN, TD.isNon, List.map_cons, List.map_nil, List.length_cons, List.length_nil, List.replicate_succ, List.replicate_zero, List.cons_append, List.nil_append, List.append_nil, Nat.zero_add, Nat.reduceAdd, Nat.reduceSub, Nat.sub_self, Nat.add_sub_cancel, List.getElem?_cons_zero, List.getElem?_cons_succ, List.getElem?_nil, List.set_cons_zero, List.set_cons_succ, List.set_nil, Option.some.injEq, D.int.injEq, D.bl.injEq, D.str.injEq, D.ref.injEq, D.ty.injEq, D.tup.injEq, D.lst.injEq, List.cons.injEq, and_true, true_and, ex_two, ex_two', exists_eq_left', exists_eq_left, exists_and_left, exists_and_right, exists_const, exists_eq_right, exists_eq_right', Bool.not_true, Bool.not_false, if_true, if_false, Bool.false_eq_true, reduceCtorEq, false_and, and_false, decide_true, decide_false]
    refine dComp_map (fun d => match d with | .tup [.int i, .int f] => .int (onW (tOf ts i.toNat) span f) | _ => .non) trivial (fun d hd K1 k1 => ?_) ?_
    · obtain ⟨p, hp, rfl⟩ := List.mem_map.mp hd
      simp only [frD, dRet, dRetN, dSeq, dAsg, dDrop, dIfS, dNext, dBreak, dCont, dPar, dSetL, dSetD, dFor, dVar, dC, dOp, dAndV, dOrV, dNotV, dAnd, dOr, dNot, dIf, dTest, dChain, dNil, dCons, dTup, dLst, dLstM, dStar, dNeg, dCB, dCall, dCallK, dMthT, dMth0, dLc, dYes, dISeq, dIStr, dIEnum, dIZip, dIRng1, dIRng2, dSl, dPart, dNoPart, dRaise, dDisp1, dNewD, dRevL, dRevT, dSortSet, dSortSetL, dIRng3, dGet2, dIKeys, dNewT, dSetT, dLstRg, dPar3, dLamA, dLamB, gdName, gdTup, gdCons, gdNil, dstart, dwipe, dAug, rdInt, rdSub, rdLt, rdLe, rdGt, rdGe, rdFdiv, rdMod, rdPow, at0, at1, at2, i30, i31, i32, set0, set1, set2, MO.lst.injEq, gup_same, gup_gup, ad_ii, ad_ss, ad_tt, ad_ll, mu_ii, mu_li, mu_ti, ix_t, ix_l, ix_s, ix_r, ix_w, ln_t, ln_l, ln_s, ln_w, ln_r, sr_t, sr_l, sr_s, sr_r, sl_t, sl_l, sl_s, sl_r, sl_w, tu_t, tu_l, tu_r, li_t, li_l, li_r, lm_t, lm_l, mx2, mn2, ab1, in1, is2, rdIsB, rdNotB, rdIsN, rdNotN, TD.isNon, List.map_cons, List.map_nil, List.length_cons, List.length_nil, List.replicate_succ, List.replicate_zero, List.cons_append, List.nil_append, List.append_nil, Nat.zero_add, Nat.reduceAdd, Nat.reduceSub, Nat.sub_self, Nat.add_sub_cancel, List.getElem?_cons_zero, List.getElem?_cons_succ, List.getElem?_nil, List.set_cons_zero, List.set_cons_succ, List.set_nil, Option.some.injEq, D.int.injEq, D.bl.injEq, D.str.injEq, D.ref.injEq, D.ty.injEq, D.tup.injEq, D.lst.injEq, List.cons.injEq, and_true, true_and, ex_two, ex_two', exists_eq_left', exists_eq_left, exists_and_left, exists_and_right, exists_const, exists_eq_right, exists_eq_right', Bool.not_true, Bool.not_false, if_true, if_false, Bool.false_eq_true, reduceCtorEq, false_and, and_false, decide_true, decide_false] at k1 ⊢
      exact ⟨_, tOf_at (hi p hp), _, rfl, k1⟩
    · rw [List.nil_append, List.map_map]
      refine ⟨_, fs.map fun (p : Nat × Int) => onW (tOf ts p.1) span p.2, rfl, ?_, by exact q⟩
      have := dInts_map (fs.map fun (p : Nat × Int) => onW (tOf ts p.1) span p.2)
      rw [List.map_map] at this
      exact this
  · exact h.elim
end K06
/-! ### convoys, in plain Lean -/
namespace K06
open PySem L2 TD
inductive Cv (ts : Trucks) (gap : Int) : Int → Convoy → Prop
  | nil {f : Int} : Cv ts gap f []
  | cons {f g : Int} {i : Nat} {r : Convoy} : f ≤ g → i < ts.length → Cv ts gap (g + (tOf ts i).len + gap) r → Cv ts gap f ((i, g) :: r)
theorem loadW_nil (ts : Trucks) (span : Int) : loadW ts span [] = 0 := rfl
theorem loadW_cons (ts : Trucks) (span : Int) (p : Nat × Int) (r : Convoy) : loadW ts span (p :: r) = onW (tOf ts p.1) span p.2 + loadW ts span r := by
  unfold loadW
  rw [List.map_cons, List.sum_cons]
theorem tOf_mem {ts : Trucks} {i : Nat} (h : i < ts.length) : tOf ts i ∈ ts := by
  unfold tOf
  rw [List.getD_eq_getElem?_getD, List.getElem?_eq_getElem h]
  exact List.getElem_mem h
theorem WTs.tr {ts : Trucks} (w : WTs ts) {i : Nat} (h : i < ts.length) : WTr (tOf ts i) := w.ok _ (tOf_mem h)
theorem sum_nonneg : ∀ {l : List Int}, (∀ x ∈ l, 0 ≤ x) → 0 ≤ l.sum
  | [], _ => by simp
  | x :: r, h => by
    rw [List.sum_cons]
    have := h x List.mem_cons_self
    have := sum_nonneg fun y hy => h y (List.mem_cons_of_mem _ hy)
    omega
theorem onW_nonneg {t : Truck} (w : WTr t) (span f : Int) : 0 ≤ onW t span f := by
  unfold onW
  refine sum_nonneg fun x hx => ?_
  obtain ⟨a, ha, rfl⟩ := List.mem_map.mp hx
  have := w.pl a (List.mem_filter.mp ha).1
  omega
theorem onW_zero {t : Truck} {span f : Int} (h : ∀ a ∈ t.ax, isOn span f a = false) : onW t span f = 0 := by
  unfold onW
  rw [List.filter_eq_nil_iff.mpr fun a ha => by rw [h a ha]; exact Bool.false_ne_true]
  rfl
theorem onW_far {t : Truck} (w : WTr t) {span f : Int} (h : span < f) : onW t span f = 0 := onW_zero fun a ha => by
  have := w.pl a ha
  unfold isOn
  have : ¬ f + a.1 ≤ span := by omega
  simp [this]
theorem onW_low {t : Truck} (w : WTr t) {span f : Int} (h : f < -t.len) : onW t span f = 0 := onW_zero fun a ha => by
  have := w.pl a ha
  unfold isOn
  have : ¬ 0 ≤ f + a.1 := by omega
  simp [this]
theorem Cv.le {ts : Trucks} {gap f f' : Int} {c : Convoy} (h : Cv ts gap f' c) (hl : f ≤ f') : Cv ts gap f c := by
  cases h with
  | nil => exact .nil
  | cons a b r => exact .cons (by omega) b r
theorem Cv.idx {ts : Trucks} {gap f : Int} {c : Convoy} (h : Cv ts gap f c) : ∀ p ∈ c, p.1 < ts.length := by
  induction h with
  | nil => intro p hp; exact (List.not_mem_nil hp).elim
  | cons a b r ih =>
    intro p hp
    rcases List.mem_cons.mp hp with rfl | hp
    · exact b
    · exact ih p hp
theorem load_nonneg {ts : Trucks} (w : WTs ts) {gap span f : Int} {c : Convoy} (h : Cv ts gap f c) : 0 ≤ loadW ts span c := by
  induction h with
  | nil => exact Int.le_refl _
  | @cons f g i r a b q ih =>
    rw [loadW_cons]
    have := onW_nonneg (w.tr b) span g
    show 0 ≤ onW (tOf ts i) span g + _
    omega
theorem load_far {ts : Trucks} (w : WTs ts) {gap span f : Int} {c : Convoy} (hg : 1 ≤ gap) (h : Cv ts gap f c) (hf : span < f) : loadW ts span c = 0 := by
  induction h with
  | nil => rfl
  | @cons f g i r a b q ih =>
    have := (w.tr b).l1
    rw [loadW_cons, ih (by omega), onW_far (w.tr b) (by show span < g; omega)]
    rfl
structure Best (ts : Trucks) (gap span f : Int) (q : Int × Convoy) : Prop where
  cv : Cv ts gap f q.2
  ld : loadW ts span q.2 = q.1
  fr : ∀ p ∈ q.2, f ≤ p.2 ∧ p.2 ≤ span
  mx : ∀ c, Cv ts gap f c → loadW ts span c ≤ q.1
theorem Best.uniq {ts : Trucks} {gap span f : Int} {q q' : Int × Convoy} (h : Best ts gap span f q) (h' : Best ts gap span f q') : q.1 = q'.1 := by
  have a := h.mx _ h'.cv
  have b := h'.mx _ h.cv
  rw [h'.ld] at a
  rw [h.ld] at b
  omega
theorem best_far {ts : Trucks} (w : WTs ts) {gap span f : Int} (hg : 1 ≤ gap) (hf : span < f) : Best ts gap span f (0, []) :=
  ⟨.nil, rfl, fun p hp => (List.not_mem_nil hp).elim, fun c hc => by rw [load_far w hg hc hf]; exact Int.le_refl _⟩
theorem Best.anti {ts : Trucks} {gap span f f' : Int} {q q' : Int × Convoy} (h : Best ts gap span f q) (h' : Best ts gap span f' q') (hl : f ≤ f') : q'.1 ≤ q.1 := by
  have a := h.mx _ (h'.cv.le hl)
  rw [h'.ld] at a
  exact a
theorem Best.nonneg {ts : Trucks} {gap span f : Int} {q : Int × Convoy} (h : Best ts gap span f q) : 0 ≤ q.1 := h.mx [] .nil
/-- the rows for a front: none here, or a truck i here and the best behind it -/
def rowOf (ts : Trucks) (span f : Int) (i : Nat) (b : Int × Convoy) : Int × Convoy := (b.1 + onW (tOf ts i) span f, (i, f) :: b.2)
theorem best_none {ts : Trucks} {gap span f : Int} {q : Int × Convoy} (h : Best ts gap span (f + 1) q) : Cv ts gap f q.2 ∧ loadW ts span q.2 = q.1 ∧ ∀ p ∈ q.2, f ≤ p.2 ∧ p.2 ≤ span :=
  ⟨h.cv.le (by omega), h.ld, fun p hp => by have := h.fr p hp; omega⟩
theorem best_here {ts : Trucks} (w : WTs ts) {gap span f : Int} (hg : 1 ≤ gap) (hf : f ≤ span) {i : Nat} (hi : i < ts.length) {b : Int × Convoy} (h : Best ts gap span (f + (tOf ts i).len + gap) b) :
    Cv ts gap f (rowOf ts span f i b).2 ∧ loadW ts span (rowOf ts span f i b).2 = (rowOf ts span f i b).1 ∧ ∀ p ∈ (rowOf ts span f i b).2, f ≤ p.2 ∧ p.2 ≤ span := by
  have := (w.tr hi).l1
  refine ⟨.cons (Int.le_refl _) hi h.cv, ?_, fun p hp => ?_⟩
  · show loadW ts span ((i, f) :: b.2) = b.1 + _
    rw [loadW_cons, h.ld]
    exact Int.add_comm _ _
  · rcases List.mem_cons.mp hp with rfl | hp
    · exact ⟨Int.le_refl _, hf⟩
    · have := h.fr p hp
      omega
theorem best_step {ts : Trucks} (w : WTs ts) {gap span f : Int} (hg : 1 ≤ gap) (hf : f ≤ span) {q0 : Int × Convoy} {B : Nat → Int × Convoy} (h0 : Best ts gap span (f + 1) q0) (hB : ∀ i, i < ts.length → Best ts gap span (f + (tOf ts i).len + gap) (B i))
    {m : Int × Convoy} (hm : m = q0 ∨ ∃ i, i < ts.length ∧ m = rowOf ts span f i (B i)) (h1 : q0.1 ≤ m.1) (h2 : ∀ i, i < ts.length → (rowOf ts span f i (B i)).1 ≤ m.1) : Best ts gap span f m := by
  have mx : ∀ c, Cv ts gap f c → loadW ts span c ≤ m.1 := fun c hc => by
    cases hc with
    | nil => have := h0.nonneg; rw [loadW_nil]; omega
    | @cons _ g i r a b q =>
      by_cases e : g = f
      · subst e
        have := (hB i b).mx _ q
        have := h2 i b
        rw [loadW_cons]
        simp only [rowOf] at *
        omega
      · have := h0.mx _ (.cons (show f + 1 ≤ g by omega) b q)
        omega
  rcases hm with rfl | ⟨i, hi, rfl⟩
  · obtain ⟨a, b, c⟩ := best_none h0
    exact ⟨a, b, c, mx⟩
  · obtain ⟨a, b, c⟩ := best_here w hg hf hi (hB i hi)
    exact ⟨a, b, c, mx⟩
theorem best_low {ts : Trucks} (w : WTs ts) {gap span : Int} {q : Int × Convoy} (hg : 1 ≤ gap) (h : Best ts gap span (-30) q) {f : Int} {c : Convoy} (hc : Cv ts gap f c) : loadW ts span c ≤ q.1 := by
  induction hc with
  | nil => exact h.nonneg
  | @cons f g i r a b p ih =>
    by_cases e : g < -30
    · rw [loadW_cons, onW_low (w.tr b) (by have := (w.tr b).l2; show g < _; omega)]
      omega
    · exact h.mx _ (.cons (by omega) b p)
theorem cv_len {ts : Trucks} (w : WTs ts) {gap span f : Int} {c : Convoy} (hg : 1 ≤ gap) (h : Cv ts gap f c) (hf : ∀ p ∈ c, p.2 ≤ span) : c.length ≤ (span + 1 - f).toNat := by
  induction h with
  | nil => exact Nat.zero_le _
  | @cons f g i r a b q ih =>
    have h1 : g ≤ span := hf (i, g) List.mem_cons_self
    have h2 := ih fun p hp => hf p (List.mem_cons_of_mem _ hp)
    have h3 := (w.tr b).l1
    rw [List.length_cons]
    omega
/-- a greater gap is never heavier -/
theorem Cv.gap {ts : Trucks} {gap gap' f : Int} {c : Convoy} (h : Cv ts gap' f c) (hl : gap ≤ gap') : Cv ts gap f c := by
  induction h with
  | nil => exact .nil
  | cons a b r ih => exact .cons a b (ih.le (by omega))
theorem best_gap {ts : Trucks} {gap gap' span f : Int} {q q' : Int × Convoy} (h : Best ts gap span f q) (h' : Best ts gap' span f q') (hl : gap ≤ gap') : q'.1 ≤ q.1 := by
  have := h.mx _ (h'.cv.gap hl)
  rw [h'.ld] at this
  exact this
theorem sum_filter_le {t : Truck} (w : ∀ a ∈ t.ax, 0 ≤ a.2) {p q : Int × Int → Bool} (h : ∀ a, p a = true → q a = true) : ((t.ax.filter p).map (·.2)).sum ≤ ((t.ax.filter q).map (·.2)).sum := by
  revert w
  generalize t.ax = l
  intro w
  induction l with
  | nil => exact Int.le_refl _
  | cons a r ih =>
    have i2 := ih fun b hb => w b (List.mem_cons_of_mem _ hb)
    have := w a List.mem_cons_self
    by_cases hp : p a = true
    · rw [List.filter_cons_of_pos hp, List.filter_cons_of_pos (h a hp), List.map_cons, List.map_cons, List.sum_cons, List.sum_cons]
      omega
    · rw [List.filter_cons_of_neg hp]
      by_cases hq : q a = true
      · rw [List.filter_cons_of_pos hq, List.map_cons, List.sum_cons]
        omega
      · rw [List.filter_cons_of_neg hq]
        exact i2
theorem onW_span {t : Truck} (w : WTr t) {span span' f : Int} (h : span ≤ span') : onW t span f ≤ onW t span' f := by
  unfold onW
  refine sum_filter_le (fun a ha => by have := w.pl a ha; omega) fun a ha => ?_
  unfold isOn at ha ⊢
  simp only [Bool.and_eq_true, decide_eq_true_eq] at ha ⊢
  omega
theorem load_span {ts : Trucks} (w : WTs ts) {gap f span span' : Int} {c : Convoy} (hc : Cv ts gap f c) (h : span ≤ span') : loadW ts span c ≤ loadW ts span' c := by
  induction hc with
  | nil => exact Int.le_refl _
  | @cons f g i r a b q ih =>
    rw [loadW_cons, loadW_cons]
    have := onW_span (w.tr b) (f := g) h
    show onW (tOf ts i) span g + _ ≤ onW (tOf ts i) span' g + _
    omega
/-- a longer bridge is never lighter -/
theorem best_span {ts : Trucks} (w : WTs ts) {gap span span' f : Int} {q q' : Int × Convoy} (h : Best ts gap span f q) (h' : Best ts gap span' f q') (hl : span ≤ span') : q.1 ≤ q'.1 := by
  have a := load_span w h.cv hl
  have b := h'.mx _ h.cv
  rw [h.ld] at a
  omega
end K06
namespace K06
open PySem L2 TD
def rowE (q : Int × Convoy) : D := .tup [.int q.1, frsD q.2]
theorem toP_fr (p : Nat × Int) : toP (frD p) = .tuple [.int (p.1 : Int), .int p.2] := by
  unfold frD
  rw [toP_tup, List.map_cons, List.map_cons, List.map_nil, toP_int, toP_int]
theorem toP_rowE (q : Int × Convoy) : toP (rowE q) = .tuple [.int q.1, .tuple (q.2.map fun p => PyData.tuple [.int (p.1 : Int), .int p.2])] := by
  unfold rowE frsD
  rw [toP_tup, List.map_cons, List.map_cons, List.map_nil, toP_int, toP_tup, List.map_map]
  have e : (toP ∘ frD) = fun p => PyData.tuple [.int (p.1 : Int), .int p.2] := funext fun p => toP_fr p
  rw [e]
theorem alike_frs : ∀ a b : Convoy, PySem.W.alikeAll (a.map fun p => PyData.tuple [.int (p.1 : Int), .int p.2]) (b.map fun p => PyData.tuple [.int (p.1 : Int), .int p.2]) = true
  | [], _ => by simp [PySem.W.alikeAll]
  | _ :: _, [] => by simp [PySem.W.alikeAll]
  | x :: xs, y :: ys => by
    rw [List.map_cons, List.map_cons, PySem.W.alikeAll, alike_frs xs ys]
    simp [PySem.W.alike, PySem.W.alikeAll]
theorem alike_rows (a b : Int × Convoy) : PySem.W.alike (toP (rowE a)) (toP (rowE b)) = true := by
  rw [toP_rowE, toP_rowE]
  simp [PySem.W.alike, PySem.W.alikeAll, alike_frs]
theorem alikeAll_rows (L : List (Int × Convoy)) : PySem.W.AlikeAll ((L.map rowE).map toP) := by
  refine ⟨fun a ha b hb => ?_, fun a ha => ?_⟩
  · rw [List.map_map] at ha hb
    obtain ⟨p, _, rfl⟩ := List.mem_map.mp ha
    obtain ⟨q, _, rfl⟩ := List.mem_map.mp hb
    exact alike_rows p q
  · rw [List.map_map] at ha
    obtain ⟨p, _, rfl⟩ := List.mem_map.mp ha
    show toP (rowE p) ≠ _
    rw [toP_rowE]
    exact fun z => by cases z
theorem dlt_rows (a b : Int × Convoy) : (dltP (rowE a) (rowE b) = true → a.1 ≤ b.1) ∧ (dltP (rowE a) (rowE b) = false → b.1 ≤ a.1) := by
  unfold dltP
  rw [toP_rowE, toP_rowE, PySem.W.dataLt_pair (by simp [PySem.W.alike]) (by simp [PySem.W.alike, alike_frs])]
  by_cases e : a.1 = b.1
  · simp [e]
  · have e1 : PyData.eqv (.int a.1) (.int b.1) = false := by simp [PyData.eqv, e]
    rw [e1, if_neg Bool.false_ne_true, PySem.W.dataLt_int]
    simp only [decide_eq_true_eq, decide_eq_false_iff_not]
    omega
theorem max_row : ∀ (L : List (Int × Convoy)) (q : Int × Convoy), ∃ m ∈ q :: L, maxF (rowE q) (L.map rowE) = rowE m ∧ ∀ r ∈ q :: L, r.1 ≤ m.1
  | [], q => ⟨q, List.mem_cons_self, rfl, fun r hr => by rw [List.mem_singleton.mp hr]; exact Int.le_refl _⟩
  | a :: L, q => by
    have e : maxF (rowE q) ((a :: L).map rowE) = maxF (if dltP (rowE q) (rowE a) = true then rowE a else rowE q) (L.map rowE) := rfl
    rw [e]
    obtain ⟨l1, l2⟩ := dlt_rows q a
    by_cases hc : dltP (rowE q) (rowE a) = true
    · rw [if_pos hc]
      obtain ⟨m, hm, em, hl⟩ := max_row L a
      refine ⟨m, List.mem_cons_of_mem _ hm, em, fun r hr => ?_⟩
      rcases List.mem_cons.mp hr with rfl | hr
      · have := hl a List.mem_cons_self
        have := l1 hc
        omega
      · exact hl r hr
    · rw [if_neg hc]
      obtain ⟨m, hm, em, hl⟩ := max_row L q
      refine ⟨m, ?_, em, fun r hr => ?_⟩
      · rcases List.mem_cons.mp hm with rfl | hm
        · exact List.mem_cons_self
        · exact List.mem_cons_of_mem _ (List.mem_cons_of_mem _ hm)
      · rcases List.mem_cons.mp hr with rfl | hr
        · exact hl _ List.mem_cons_self
        · rcases List.mem_cons.mp hr with rfl | hr
          · have := hl q List.mem_cons_self
            have := l2 (by cases h : dltP (rowE q) (rowE r) with | true => exact absurd h hc | false => rfl)
            omega
          · exact hl r (List.mem_cons_of_mem _ hr)
theorem pure_fr (n : Nat) (p : Nat × Int) : pureN (n + 1) (frD p) = true := by
  unfold frD
  rw [pureN_tup]
  cases n <;> rfl
theorem pure_frs (n : Nat) (c : Convoy) : pureN (n + 2) (frsD c) = true := by
  unfold frsD
  rw [pureN_tup, List.all_map, List.all_eq_true]
  exact fun x _ => pure_fr n x
theorem pure_rowE (n : Nat) (q : Int × Convoy) : pureN (n + 3) (rowE q) = true := by
  unfold rowE
  rw [pureN_tup]
  simp only [List.all_cons, List.all_nil, Bool.and_true, pure_frs]
  rfl
/-! ### best_from -/
/-- the dict of the bests from some front on -/
structure HoldB (ts : Trucks) (gap span lo : Int) (F : Int → Int × Convoy) (kvs : List (Key × D)) : Prop where
  best : ∀ f, lo ≤ f → Best ts gap span f (F f)
  at_ : ∀ f, lo ≤ f → f ≤ span → valD kvs (.inl f) = some (rowE (F f))
  far : ∀ f, span < f → valD kvs (.inl f) = none ∧ F f = (0, [])
theorem HoldB.get {ts : Trucks} {gap span lo : Int} {F : Int → Int × Convoy} {kvs : List (Key × D)} (h : HoldB ts gap span lo F kvs) {f : Int} (hf : lo ≤ f) : (valD kvs (.inl f)).getD (.tup [.int 0, .tup []]) = rowE (F f) := by
  by_cases c : f ≤ span
  · rw [h.at_ f hf c]; rfl
  · obtain ⟨a, b⟩ := h.far f (by omega)
    rw [a, b]; rfl
def sp_best_from (A : Ad) : SpD := fun zs G Q _ => match zs with
  | [v, .int gap, .int span] => ∃ ts, v = trsD ts ∧ WTs ts ∧ 1 ≤ gap ∧ gap ≤ 20 ∧ 0 ≤ span ∧ span ≤ 101 ∧ ∀ p kvs F G', HoldB ts gap span (-30) F kvs → (∀ b m, G b = some m → G' b = some m) → G' p = some (.dK kvs) → Q (.ref p) G'
  | _ => False
theorem len_best_from {A : Ad} {zs : List D} {G : GH} {Q : DK} {x : XD} (h : sp_best_from A zs G Q x) : zs.length = 3 := by
  unfold sp_best_from at h
  split at h <;> first | rfl | exact h.elim
def ds_best_from (A : Ad) : DS := dSeq (dAsg dNewD (gdName 3)) (dSeq (dFor (dIRng3 (dCons (dVar 2) (dCons (dOp rdSub (dNeg (dC (.int 30))) (dC (.int 1))) (dCons (dNeg (dC (.int 1))) dNil)))) (gdName 4) (dSeq (dAsg (dLstM (dCons (dGet2 (dVar 3) (dOp rdAdd (dVar 4) (dC (.int 1))) (dTup (dCons (dC (.int 0)) (dCons (dTup dNil) dNil)))) dNil)) (gdName 5)) (dSeq (dFor (dIEnum (dCons (dVar 0) dNil)) (gdTup (gdCons (gdName 6) (gdCons (gdName 7) gdNil)) 2) (dSeq (dAsg (dGet2 (dVar 3) (dOp rdAdd (dOp rdAdd (dVar 4) (dOp rdIx (dVar 7) (dC (.int 0)))) (dVar 1)) (dTup (dCons (dC (.int 0)) (dCons (dTup dNil) dNil)))) (gdName 8)) (dDrop (dMthT "list" rdAppend (dVar 5) (dCons (dTup (dCons (dOp rdAdd (dOp rdIx (dVar 8) (dC (.int 0))) (dCall (sp_weight_on A) (dCons (dVar 7) (dCons (dVar 2) (dCons (dVar 4) dNil))))) (dCons (dTup (dCons (dTup (dCons (dVar 6) (dCons (dVar 4) dNil))) (dStar (dOp rdIx (dVar 8) (dC (.int 1))) dNil))) dNil))) dNil))))) (dSetD (dCB rdMaxR (dCons (dVar 5) dNil)) (dVar 3) (dVar 4))))) (dRet (dVar 3)))
def N_best_from : List PySem.Str := ["trucks", "gap", "span", "best", "front", "rows", "at", "truck", "behind"]
theorem rngC_get {lo c : Int} {n i : Nat} {d : D} (h : (rngC lo c n)[i]? = some d) : i < n ∧ d = .int (lo + (i : Nat) * c) := by
  unfold rngC at h
  rw [List.getElem?_map] at h
  by_cases hi : i < n
  · rw [List.getElem?_range hi] at h
    cases h
    exact ⟨hi, rfl⟩
  · rw [List.getElem?_eq_none (by rw [List.length_range]; omega)] at h
    cases h
theorem rngC_len (lo c : Int) (n : Nat) : (rngC lo c n).length = n := by unfold rngC; rw [List.length_map, List.length_range]
theorem dEnum_at : ∀ {xs : List D} {k i : Nat} {d : D}, (dEnum k xs)[i]? = some d → ∃ x, xs[i]? = some x ∧ d = .tup [.int ((k + i : Nat) : Int), x]
  | [], _, _, _, h => by simp [dEnum] at h
  | x :: xs, k, 0, d, h => by
    simp [dEnum] at h
    exact ⟨x, rfl, h.symm⟩
  | x :: xs, k, i + 1, d, h => by
    rw [dEnum, List.getElem?_cons_succ] at h
    obtain ⟨y, h1, h2⟩ := dEnum_at h
    refine ⟨y, by rw [List.getElem?_cons_succ]; exact h1, ?_⟩
    rw [h2, show k + 1 + i = k + (i + 1) by omega]
theorem read_best_from {A : Ad} {zs : List D} {G : GH} {Q : DK} {x : XD} (h : sp_best_from A zs G Q x) : ds_best_from A { nx := fun _ G' => Q .non G', rt := Q, xx := fun _ => x } (dstart N_best_from zs) G := by
  unfold sp_best_from at h
  split at h
  · rename_i v gap span
    obtain ⟨ts, rfl, w, g1, g2, s1, s2, q⟩ := h
    have n4 := w.n4
    unfold N_best_from ds_best_from
    simp only [dRet, dRetN, dSeq, dAsg, dDrop, dIfS, dNext, dBreak, dCont, dPar, dSetL, dSetD, dFor, dVar, dC, dOp, dAndV, dOrV, dNotV, dAnd, dOr, dNot, dIf, dTest, dChain, dNil, dCons, dTup, dLst, dLstM, dStar, dNeg, dCB, dCall, dCallK, dMthT, dMth0, dLc, dYes, dISeq, dIStr, dIEnum, dIZip, dIRng1, dIRng2, dSl, dPart, dNoPart, dRaise, dDisp1, dNewD, dRevL, dRevT, dSortSet, dSortSetL, dIRng3, dGet2, dIKeys, dNewT, dSetT, dLstRg, dPar3, dLamA, dLamB, gdName, gdTup, gdCons, gdNil, dstart, dwipe, dAug, rdInt, rdSub, rdLt, rdLe, rdGt, rdGe, rdFdiv, rdMod, rdPow, at0, at1, at2, i30, i31, i32, set0, set1, set2, MO.lst.injEq, gup_same, gup_gup, ad_ii, ad_ss, ad_tt, ad_ll, mu_ii, mu_li, mu_ti, ix_t, ix_l, ix_s, ix_r, ix_w, ln_t, ln_l, ln_s, ln_w, ln_r, sr_t, sr_l, sr_s, sr_r, sl_t, sl_l, sl_s, sl_r, sl_w, tu_t, tu_l, tu_r, li_t, li_l, li_r, lm_t, lm_l, mx2, mn2, ab1, in1, is2, rdIsB, rdNotB, rdIsN, rdNotN, TD.isNon, List.map_cons, List.map_nil, List.length_cons, List.length_nil, List.replicate_succ, List.replicate_zero, List.cons_append, List.nil_append, List.append_nil, Nat.zero_add, Nat.reduceAdd, Nat.reduceSub, Nat.sub_self, Nat.add_sub_cancel, List.getElem?_cons_zero, List.getElem?_cons_succ, List.getElem?_nil, List.set_cons_zero, List.set_cons_succ, List.set_nil, Option.some.injEq, D.int.injEq, D.bl.injEq, D.str.injEq, D.ref.injEq, D.ty.injEq, D.tup.injEq, D.lst.injEq, List.cons.injEq, and_true, true_and, ex_two, ex_two', exists_eq_left', exists_eq_left, exists_and_left, exists_and_right, exists_const, exists_eq_right, exists_eq_right', Bool.not_true, Bool.not_false, if_true, if_false, Bool.false_eq_true, reduceCtorEq, false_and, and_false, decide_true, decide_false]
    intro p hp
    have en : (span - (-30 - 1)).toNat = (span + 31).toNat := by omega
    refine ⟨_, _, _, ⟨rfl, rfl, rfl⟩, (span + 31).toNat, by rw [← en]; exact RgC.neg (by omega) (by omega) (by omega) (by omega), sz _ (by omega), ?_⟩
    refine dLoop_inv (fun k ρ G' => ∃ o4 o5 o6 o7 o8 kvs F, ρ = [some (trsD ts), some (.int gap), some (.int span), some (.ref p), o4, o5, o6, o7, o8] ∧ G' p = some (.dK kvs) ∧ kvs.length ≤ k ∧ (∀ b m, G b = some m → G' b = some m) ∧ HoldB ts gap span (span + 1 - (k : Int)) F kvs) 0
      ⟨none, none, none, none, none, [], fun _ => (0, []), rfl, gup_same, Nat.le_refl _, fun b m hb => ?_, ⟨fun f hf => best_far w g1 (by omega), fun f h1 h2 => ?_, fun f _ => ⟨rfl, rfl⟩⟩⟩ (fun _ _ _ _ _ _ => trivial) (fun k dd ρ G' hi hI K1 hK => ?_) (fun ρ G' hI => ?_)
    · rw [gup_ne (fun z => by rw [z, hp] at hb; cases hb)]
      exact hb
    · omega
    · obtain ⟨o4, o5, o6, o7, o8, kvs, F, rfl, gp, hk, keep, HB⟩ := hI
      obtain ⟨hk1, rfl⟩ := rngC_get hi
      rw [Nat.zero_add] at *
      have ee : span + (k : Int) * (-1) = span - k := by omega
      rw [ee]
      obtain ⟨f, hf⟩ : ∃ f : Int, f = span - k := ⟨_, rfl⟩
      rw [← hf]
      simp only [dRet, dRetN, dSeq, dAsg, dDrop, dIfS, dNext, dBreak, dCont, dPar, dSetL, dSetD, dFor, dVar, dC, dOp, dAndV, dOrV, dNotV, dAnd, dOr, dNot, dIf, dTest, dChain, dNil, dCons, dTup, dLst, dLstM, dStar, dNeg, dCB, dCall, dCallK, dMthT, dMth0, dLc, dYes, dISeq, dIStr, dIEnum, dIZip, dIRng1, dIRng2, dSl, dPart, dNoPart, dRaise, dDisp1, dNewD, dRevL, dRevT, dSortSet, dSortSetL, dIRng3, dGet2, dIKeys, dNewT, dSetT, dLstRg, dPar3, dLamA, dLamB, gdName, gdTup, gdCons, gdNil, dstart, dwipe, dAug, rdInt, rdSub, rdLt, rdLe, rdGt, rdGe, rdFdiv, rdMod, rdPow, at0, at1, at2, i30, i31, i32, set0, set1, set2, MO.lst.injEq, gup_same, gup_gup, ad_ii, ad_ss, ad_tt, ad_ll, mu_ii, mu_li, mu_ti, ix_t, ix_l, ix_s, ix_r, ix_w, ln_t, ln_l, ln_s, ln_w, ln_r, sr_t, sr_l, sr_s, sr_r, sl_t, sl_l, sl_s, sl_r, sl_w, tu_t, tu_l, tu_r, li_t, li_l, li_r, lm_t, lm_l, mx2, mn2, ab1, in1, is2, rdIsB, rdNotB, rdIsN, rdNotN, TD.isNon, List.map_cons, List.map_nil, List.length_cons, List.length_nil, List.replicate_succ, List.replicate_zero, List.cons_append, List.nil_append, List.append_nil, Nat.zero_add, Nat.reduceAdd, Nat.reduceSub, Nat.sub_self, Nat.add_sub_cancel, List.getElem?_cons_zero, List.getElem?_cons_succ, List.getElem?_nil, List.set_cons_zero, List.set_cons_succ, List.set_nil, Option.some.injEq, D.int.injEq, D.bl.injEq, D.str.injEq, D.ref.injEq, D.ty.injEq, D.tup.injEq, D.lst.injEq, List.cons.injEq, and_true, true_and, ex_two, ex_two', exists_eq_left', exists_eq_left, exists_and_left, exists_and_right, exists_const, exists_eq_right, exists_eq_right', Bool.not_true, Bool.not_false, if_true, if_false, Bool.false_eq_true, reduceCtorEq, false_and, and_false, decide_true, decide_false]
      refine ⟨⟨kvs, .inl gp⟩, sz _ (by omega), sz _ (by omega), .inl (f + 1), rfl, kvs, .inl gp, sz _ (by omega), fun r hr => ?_⟩
      rw [HB.get (show span + 1 - (k : Int) ≤ f + 1 by omega)]
      have hne : r ≠ p := fun z => by rw [z, gp] at hr; cases hr
      have hrG : G r = none := by
        cases e : G r with
        | none => rfl
        | some m => rw [keep r m e] at hr; cases hr
      unfold trsD
      simp only [dRet, dRetN, dSeq, dAsg, dDrop, dIfS, dNext, dBreak, dCont, dPar, dSetL, dSetD, dFor, dVar, dC, dOp, dAndV, dOrV, dNotV, dAnd, dOr, dNot, dIf, dTest, dChain, dNil, dCons, dTup, dLst, dLstM, dStar, dNeg, dCB, dCall, dCallK, dMthT, dMth0, dLc, dYes, dISeq, dIStr, dIEnum, dIZip, dIRng1, dIRng2, dSl, dPart, dNoPart, dRaise, dDisp1, dNewD, dRevL, dRevT, dSortSet, dSortSetL, dIRng3, dGet2, dIKeys, dNewT, dSetT, dLstRg, dPar3, dLamA, dLamB, gdName, gdTup, gdCons, gdNil, dstart, dwipe, dAug, rdInt, rdSub, rdLt, rdLe, rdGt, rdGe, rdFdiv, rdMod, rdPow, at0, at1, at2, i30, i31, i32, set0, set1, set2, MO.lst.injEq, gup_same, gup_gup, ad_ii, ad_ss, ad_tt, ad_ll, mu_ii, mu_li, mu_ti, ix_t, ix_l, ix_s, ix_r, ix_w, ln_t, ln_l, ln_s, ln_w, ln_r, sr_t, sr_l, sr_s, sr_r, sl_t, sl_l, sl_s, sl_r, sl_w, tu_t, tu_l, tu_r, li_t, li_l, li_r, lm_t, lm_l, mx2, mn2, ab1, in1, is2, rdIsB, rdNotB, rdIsN, rdNotN, TD.isNon, List.map_cons, List.map_nil, List.length_cons, List.length_nil, List.replicate_succ, List.replicate_zero, List.cons_append, List.nil_append, List.append_nil, Nat.zero_add, Nat.reduceAdd, Nat.reduceSub, Nat.sub_self, Nat.add_sub_cancel, List.getElem?_cons_zero, List.getElem?_cons_succ, List.getElem?_nil, List.set_cons_zero, List.set_cons_succ, List.set_nil, Option.some.injEq, D.int.injEq, D.bl.injEq, D.str.injEq, D.ref.injEq, D.ty.injEq, D.tup.injEq, D.lst.injEq, List.cons.injEq, and_true, true_and, ex_two, ex_two', exists_eq_left', exists_eq_left, exists_and_left, exists_and_right, exists_const, exists_eq_right, exists_eq_right', Bool.not_true, Bool.not_false, if_true, if_false, Bool.false_eq_true, reduceCtorEq, false_and, and_false, decide_true, decide_false]
      refine dLoop_inv (fun j ρ G2 => ∃ o6 o7 o8, ρ = [some (.tup (ts.map trD)), some (.int gap), some (.int span), some (.ref p), some (.int f), some (.ref r), o6, o7, o8] ∧ G2 r = some (.lst (rowE (F (f + 1)) :: ((List.range j).map fun i => rowOf ts span f i (F (f + (tOf ts i).len + gap))).map rowE)) ∧ G2 p = some (.dK kvs) ∧ (∀ b m, G b = some m → G2 b = some m)) 0
        ⟨_, _, _, rfl, gup_same, by rw [gup_ne (Ne.symm hne)]; exact gp, fun b m hb => by rw [gup_ne (fun z => by rw [z, hrG] at hb; cases hb)]; exact keep b m hb⟩ (fun _ _ _ _ _ _ => trivial) (fun j dd ρ G2 hj hJ K2 hK2 => ?_) (fun ρ G2 hJ => ?_)
      · obtain ⟨o6, o7, o8, rfl, gr, gp2, keep2⟩ := hJ
        obtain ⟨td, h1, rfl⟩ := dEnum_at hj
        rw [Nat.zero_add] at *
        rw [List.getElem?_map] at h1
        obtain ⟨t, ht, rfl⟩ := Option.map_eq_some_iff.mp h1
        have hjl := (List.getElem?_eq_some_iff.mp ht).1
        have et : tOf ts j = t := by
          unfold tOf
          rw [List.getD_eq_getElem?_getD, ht]
          rfl
        have wt := w.tr hjl
        rw [et] at wt
        have := wt.l1
        have := wt.l2
        unfold trD
        simp only [dRet, dRetN, dSeq, dAsg, dDrop, dIfS, dNext, dBreak, dCont, dPar, dSetL, dSetD, dFor, dVar, dC, dOp, dAndV, dOrV, dNotV, dAnd, dOr, dNot, dIf, dTest, dChain, dNil, dCons, dTup, dLst, dLstM, dStar, dNeg, dCB, dCall, dCallK, dMthT, dMth0, dLc, dYes, dISeq, dIStr, dIEnum, dIZip, dIRng1, dIRng2, dSl, dPart, dNoPart, dRaise, dDisp1, dNewD, dRevL, dRevT, dSortSet, dSortSetL, dIRng3, dGet2, dIKeys, dNewT, dSetT, dLstRg, dPar3, dLamA, dLamB, gdName, gdTup, gdCons, gdNil, dstart, dwipe, dAug, rdInt, rdSub, rdLt, rdLe, rdGt, rdGe, rdFdiv, rdMod, rdPow, at0, at1, at2, i30, i31, i32, set0, set1, set2, MO.lst.injEq, gup_same, gup_gup, ad_ii, ad_ss, ad_tt, ad_ll, mu_ii, mu_li, mu_ti, ix_t, ix_l, ix_s, ix_r, ix_w, ln_t, ln_l, ln_s, ln_w, ln_r, sr_t, sr_l, sr_s, sr_r, sl_t, sl_l, sl_s, sl_r, sl_w, tu_t, tu_l, tu_r, li_t, li_l, li_r, lm_t, lm_l, mx2, mn2, ab1, in1, is2, rdIsB, rdNotB, rdIsN, rdNotN, TD.isNon, List.map_cons, List.map_nil, List.length_cons, List.length_nil, List.replicate_succ, List.replicate_zero, List.cons_append, List.nil_append, List.append_nil, Nat.zero_add, Nat.reduceAdd, Nat.reduceSub, Nat.sub_self, Nat.add_sub_cancel, List.getElem?_cons_zero, List.getElem?_cons_succ, List.getElem?_nil, List.set_cons_zero, List.set_cons_succ, List.set_nil, Option.some.injEq, D.int.injEq, D.bl.injEq, D.str.injEq, D.ref.injEq, D.ty.injEq, D.tup.injEq, D.lst.injEq, List.cons.injEq, and_true, true_and, ex_two, ex_two', exists_eq_left', exists_eq_left, exists_and_left, exists_and_right, exists_const, exists_eq_right, exists_eq_right', Bool.not_true, Bool.not_false, if_true, if_false, Bool.false_eq_true, reduceCtorEq, false_and, and_false, decide_true, decide_false]
        refine ⟨⟨kvs, .inl gp2⟩, sz _ (by omega), sz _ (by omega), .inl (f + t.len + gap), rfl, kvs, .inl gp2, .inl ⟨rfl, _, gr⟩, ?_⟩
        rw [HB.get (show span + 1 - (k : Int) ≤ f + t.len + gap by omega)]
        have Bb := HB.best (f + t.len + gap) (by omega)
        have lb := cv_len w g1 Bb.cv fun p hp => (Bb.fr p hp).2
        have eb : F (f + (tOf ts j).len + gap) = F (f + t.len + gap) := by rw [et]
        revert Bb lb eb
        generalize F (f + t.len + gap) = b
        intro Bb lb eb
        have er : rowE b = .tup [.int b.1, .tup (b.2.map frD)] := rfl
        rw [er]
        simp only [dRet, dRetN, dSeq, dAsg, dDrop, dIfS, dNext, dBreak, dCont, dPar, dSetL, dSetD, dFor, dVar, dC, dOp, dAndV, dOrV, dNotV, dAnd, dOr, dNot, dIf, dTest, dChain, dNil, dCons, dTup, dLst, dLstM, dStar, dNeg, dCB, dCall, dCallK, dMthT, dMth0, dLc, dYes, dISeq, dIStr, dIEnum, dIZip, dIRng1, dIRng2, dSl, dPart, dNoPart, dRaise, dDisp1, dNewD, dRevL, dRevT, dSortSet, dSortSetL, dIRng3, dGet2, dIKeys, dNewT, dSetT, dLstRg, dPar3, dLamA, dLamB, gdName, gdTup, gdCons, gdNil, dstart, dwipe, dAug, rdInt, rdSub, rdLt, rdLe, rdGt, rdGe, rdFdiv, rdMod, rdPow, at0, at1, at2, i30, i31, i32, set0, set1, set2, MO.lst.injEq, gup_same, gup_gup, ad_ii, ad_ss, ad_tt, ad_ll, mu_ii, mu_li, mu_ti, ix_t, ix_l, ix_s, ix_r, ix_w, ln_t, ln_l, ln_s, ln_w, ln_r, sr_t, sr_l, sr_s, sr_r, sl_t, sl_l, sl_s, sl_r, sl_w, tu_t, tu_l, tu_r, li_t, li_l, li_r, lm_t, lm_l, mx2, mn2, ab1, in1, is2, rdIsB, rdNotB, rdIsN, rdNotN, TD.isNon, List.map_cons, List.map_nil, List.length_cons, List.length_nil, List.replicate_succ, List.replicate_zero, List.cons_append, List.nil_append, List.append_nil, Nat.zero_add, Nat.reduceAdd, Nat.reduceSub, Nat.sub_self, Nat.add_sub_cancel, List.getElem?_cons_zero, List.getElem?_cons_succ, List.getElem?_nil, List.set_cons_zero, List.set_cons_succ, List.set_nil, Option.some.injEq, D.int.injEq, D.bl.injEq, D.str.injEq, D.ref.injEq, D.ty.injEq, D.tup.injEq, D.lst.injEq, List.cons.injEq, and_true, true_and, ex_two, ex_two', exists_eq_left', exists_eq_left, exists_and_left, exists_and_right, exists_const, exists_eq_right, exists_eq_right', Bool.not_true, Bool.not_false, if_true, if_false, Bool.false_eq_true, reduceCtorEq, false_and, and_false, decide_true, decide_false]
        refine ⟨t, rfl, ?_⟩
        simp only [dRet, dRetN, dSeq, dAsg, dDrop, dIfS, dNext, dBreak, dCont, dPar, dSetL, dSetD, dFor, dVar, dC, dOp, dAndV, dOrV, dNotV, dAnd, dOr, dNot, dIf, dTest, dChain, dNil, dCons, dTup, dLst, dLstM, dStar, dNeg, dCB, dCall, dCallK, dMthT, dMth0, dLc, dYes, dISeq, dIStr, dIEnum, dIZip, dIRng1, dIRng2, dSl, dPart, dNoPart, dRaise, dDisp1, dNewD, dRevL, dRevT, dSortSet, dSortSetL, dIRng3, dGet2, dIKeys, dNewT, dSetT, dLstRg, dPar3, dLamA, dLamB, gdName, gdTup, gdCons, gdNil, dstart, dwipe, dAug, rdInt, rdSub, rdLt, rdLe, rdGt, rdGe, rdFdiv, rdMod, rdPow, at0, at1, at2, i30, i31, i32, set0, set1, set2, MO.lst.injEq, gup_same, gup_gup, ad_ii, ad_ss, ad_tt, ad_ll, mu_ii, mu_li, mu_ti, ix_t, ix_l, ix_s, ix_r, ix_w, ln_t, ln_l, ln_s, ln_w, ln_r, sr_t, sr_l, sr_s, sr_r, sl_t, sl_l, sl_s, sl_r, sl_w, tu_t, tu_l, tu_r, li_t, li_l, li_r, lm_t, lm_l, mx2, mn2, ab1, in1, is2, rdIsB, rdNotB, rdIsN, rdNotN, TD.isNon, List.map_cons, List.map_nil, List.length_cons, List.length_nil, List.replicate_succ, List.replicate_zero, List.cons_append, List.nil_append, List.append_nil, Nat.zero_add, Nat.reduceAdd, Nat.reduceSub, Nat.sub_self, Nat.add_sub_cancel, List.getElem?_cons_zero, List.getElem?_cons_succ, List.getElem?_nil, List.set_cons_zero, List.set_cons_succ, List.set_nil, Option.some.injEq, D.int.injEq, D.bl.injEq, D.str.injEq, D.ref.injEq, D.ty.injEq, D.tup.injEq, D.lst.injEq, List.cons.injEq, and_true, true_and, ex_two, ex_two', exists_eq_left', exists_eq_left, exists_and_left, exists_and_right, exists_const, exists_eq_right, exists_eq_right', Bool.not_true, Bool.not_false, if_true, if_false, Bool.false_eq_true, reduceCtorEq, false_and, and_false, decide_true, decide_false, List.length_map]
        refine ⟨sz _ (by omega), sz _ (by omega), sz _ (by omega), r, _, _, rfl, rfl, gr, ?_, ?_⟩
        · rw [List.length_cons, List.length_map, List.length_map, List.length_range]
          exact Nat.lt_of_lt_of_le (show j + 1 < 1000 by omega) (sz _ (by omega))
        · refine hK2 _ _ ⟨_, _, _, rfl, ?_, by rw [gup_ne (Ne.symm hne)]; exact gp2, fun c m hc => by rw [gup_ne (fun z => by rw [z, hrG] at hc; cases hc)]; exact keep2 c m hc⟩
          rw [gup_same, List.range_succ, List.map_append, List.map_append, List.map_cons, List.map_nil, List.map_cons, List.map_nil, eb]
          have er2 : rowE (rowOf ts span f j b) = D.tup [D.int (b.1 + onW t span f), D.tup (D.tup [D.int (j : Int), D.int f] :: List.map frD b.2)] := by
            unfold rowOf
            rw [et]
            rfl
          rw [er2]
          rfl
      · obtain ⟨o6, o7, o8, rfl, gr, gp2, keep2⟩ := hJ
        rw [Nat.zero_add, dEnum_length, List.length_map] at gr
        obtain ⟨m, hm, em, hmx⟩ := max_row ((List.range ts.length).map fun i => rowOf ts span f i (F (f + (tOf ts i).len + gap))) (F (f + 1))
        simp only [dRet, dRetN, dSeq, dAsg, dDrop, dIfS, dNext, dBreak, dCont, dPar, dSetL, dSetD, dFor, dVar, dC, dOp, dAndV, dOrV, dNotV, dAnd, dOr, dNot, dIf, dTest, dChain, dNil, dCons, dTup, dLst, dLstM, dStar, dNeg, dCB, dCall, dCallK, dMthT, dMth0, dLc, dYes, dISeq, dIStr, dIEnum, dIZip, dIRng1, dIRng2, dSl, dPart, dNoPart, dRaise, dDisp1, dNewD, dRevL, dRevT, dSortSet, dSortSetL, dIRng3, dGet2, dIKeys, dNewT, dSetT, dLstRg, dPar3, dLamA, dLamB, gdName, gdTup, gdCons, gdNil, dstart, dwipe, dAug, rdInt, rdSub, rdLt, rdLe, rdGt, rdGe, rdFdiv, rdMod, rdPow, at0, at1, at2, i30, i31, i32, set0, set1, set2, MO.lst.injEq, gup_same, gup_gup, ad_ii, ad_ss, ad_tt, ad_ll, mu_ii, mu_li, mu_ti, ix_t, ix_l, ix_s, ix_r, ix_w, ln_t, ln_l, ln_s, ln_w, ln_r, sr_t, sr_l, sr_s, sr_r, sl_t, sl_l, sl_s, sl_r, sl_w, tu_t, tu_l, tu_r, li_t, li_l, li_r, lm_t, lm_l, mx2, mn2, ab1, in1, is2, rdIsB, rdNotB, rdIsN, rdNotN, TD.isNon, List.map_cons, List.map_nil, List.length_cons, List.length_nil, List.replicate_succ, List.replicate_zero, List.cons_append, List.nil_append, List.append_nil, Nat.zero_add, Nat.reduceAdd, Nat.reduceSub, Nat.sub_self, Nat.add_sub_cancel, List.getElem?_cons_zero, List.getElem?_cons_succ, List.getElem?_nil, List.set_cons_zero, List.set_cons_succ, List.set_nil, Option.some.injEq, D.int.injEq, D.bl.injEq, D.str.injEq, D.ref.injEq, D.ty.injEq, D.tup.injEq, D.lst.injEq, List.cons.injEq, and_true, true_and, ex_two, ex_two', exists_eq_left', exists_eq_left, exists_and_left, exists_and_right, exists_const, exists_eq_right, exists_eq_right', Bool.not_true, Bool.not_false, if_true, if_false, Bool.false_eq_true, reduceCtorEq, false_and, and_false, decide_true, decide_false]
        refine ⟨r, _, _, 60, rfl, gr, Nat.le_refl _, fun y hy => ?_, alikeAll_rows (F (f + 1) :: _), ?_⟩
        · rw [← List.map_cons] at hy
          obtain ⟨c, _, rfl⟩ := List.mem_map.mp hy
          exact pure_rowE 57 c
        · rw [em]
          refine ⟨kvs, .inl f, rfl, gp2, Nat.lt_of_lt_of_le (show kvs.length < 1000 by omega) (sz _ (by omega)), ?_⟩
          have Bm : Best ts gap span f m := by
            refine best_step (B := fun i => F (f + (tOf ts i).len + gap)) w g1 (by omega) (HB.best (f + 1) (by omega)) (fun i hi => HB.best _ ?_) ?_ (hmx _ List.mem_cons_self) fun i hi => hmx _ (List.mem_cons_of_mem _ (List.mem_map.mpr ⟨i, List.mem_range.mpr hi, rfl⟩))
            · have := (w.tr hi).l1
              omega
            · rcases List.mem_cons.mp hm with e | e
              · exact .inl e
              · obtain ⟨i, hi, e⟩ := List.mem_map.mp e
                exact .inr ⟨i, List.mem_range.mp hi, e.symm⟩
          refine hK _ _ ⟨_, _, _, _, _, putD kvs (.inl f) (rowE m), fun g => if g = f then m else F g, rfl, gup_same, ?_, fun c mo hc => ?_, ⟨fun g hg => ?_, fun g h1 h2 => ?_, fun g hg => ?_⟩⟩
          · have := length_putD kvs (.inl f) (rowE m)
            omega
          · rw [gup_ne (fun z => by rw [z, hp] at hc; cases hc)]
            exact keep2 c mo hc
          · by_cases e : g = f
            · rw [if_pos e, e]; exact Bm
            · rw [if_neg e]; exact HB.best g (by omega)
          · by_cases e : g = f
            · rw [if_pos e, e]; exact valD_put_same
            · rw [if_neg e, valD_put_ne (fun z => e (by injection z))]; exact HB.at_ g (by omega) h2
          · have e : g ≠ f := by omega
            rw [if_neg e, valD_put_ne (fun z => e (by injection z))]
            exact HB.far g hg
    · obtain ⟨o4, o5, o6, o7, o8, kvs, F, rfl, gp, hk, keep, HB⟩ := hI
      rw [rngC_len] at HB
      simp only [dRet, dRetN, dSeq, dAsg, dDrop, dIfS, dNext, dBreak, dCont, dPar, dSetL, dSetD, dFor, dVar, dC, dOp, dAndV, dOrV, dNotV, dAnd, dOr, dNot, dIf, dTest, dChain, dNil, dCons, dTup, dLst, dLstM, dStar, dNeg, dCB, dCall, dCallK, dMthT, dMth0, dLc, dYes, dISeq, dIStr, dIEnum, dIZip, dIRng1, dIRng2, dSl, dPart, dNoPart, dRaise, dDisp1, dNewD, dRevL, dRevT, dSortSet, dSortSetL, dIRng3, dGet2, dIKeys, dNewT, dSetT, dLstRg, dPar3, dLamA, dLamB, gdName, gdTup, gdCons, gdNil, dstart, dwipe, dAug, rdInt, rdSub, rdLt, rdLe, rdGt, rdGe, rdFdiv, rdMod, rdPow, at0, at1, at2, i30, i31, i32, set0, set1, set2, MO.lst.injEq, gup_same, gup_gup, ad_ii, ad_ss, ad_tt, ad_ll, mu_ii, mu_li, mu_ti, ix_t, ix_l, ix_s, ix_r, ix_w, ln_t, ln_l, ln_s, ln_w, ln_r, sr_t, sr_l, sr_s, sr_r, sl_t, sl_l, sl_s, sl_r, sl_w, tu_t, tu_l, tu_r, li_t, li_l, li_r, lm_t, lm_l, mx2, mn2, ab1, in1, is2, rdIsB, rdNotB, rdIsN, rdNotN, TD.isNon, List.map_cons, List.map_nil, List.length_cons, List.length_nil, List.replicate_succ, List.replicate_zero, List.cons_append, List.nil_append, List.append_nil, Nat.zero_add, Nat.reduceAdd, Nat.reduceSub, Nat.sub_self, Nat.add_sub_cancel, List.getElem?_cons_zero, List.getElem?_cons_succ, List.getElem?_nil, List.set_cons_zero, List.set_cons_succ, List.set_nil, Option.some.injEq, D.int.injEq, D.bl.injEq, D.str.injEq, D.ref.injEq, D.ty.injEq, D.tup.injEq, D.lst.injEq, List.cons.injEq, and_true, true_and, ex_two, ex_two', exists_eq_left', exists_eq_left, exists_and_left, exists_and_right, exists_const, exists_eq_right, exists_eq_right', Bool.not_true, Bool.not_false, if_true, if_false, Bool.false_eq_true, reduceCtorEq, false_and, and_false, decide_true, decide_false]
      exact q p kvs F G' (by rw [show span + 1 - ((0 + (span + 31).toNat : Nat) : Int) = -30 by omega] at HB; exact HB) keep gp
  · exact h.elim
end K06
namespace K06
open PySem L2 TD
def sp_heaviest_of (A : Ad) : SpD := fun zs G Q _ => match zs with
  | [v, .int gap, .int span] => ∃ ts, v = trsD ts ∧ WTs ts ∧ 1 ≤ gap ∧ gap ≤ 20 ∧ 0 ≤ span ∧ span ≤ 101 ∧ ∀ q G', Best ts gap span (-30) q → Ext G G' → Q (rowE q) G'
  | _ => False
theorem len_heaviest_of {A : Ad} {zs : List D} {G : GH} {Q : DK} {x : XD} (h : sp_heaviest_of A zs G Q x) : zs.length = 3 := by
  unfold sp_heaviest_of at h
  split at h <;> first | rfl | exact h.elim
def ds_heaviest_of (A : Ad) : DS := dRet (dOp rdDIx (dCall (sp_best_from A) (dCons (dVar 0) (dCons (dVar 1) (dCons (dVar 2) dNil)))) (dNeg (dC (.int 30))))
def N_heaviest_of : List PySem.Str := ["trucks", "gap", "span"]
theorem read_heaviest_of {A : Ad} {zs : List D} {G : GH} {Q : DK} {x : XD} (h : sp_heaviest_of A zs G Q x) : ds_heaviest_of A { nx := fun _ G' => Q .non G', rt := Q, xx := fun _ => x } (dstart N_heaviest_of zs) G := by
  unfold sp_heaviest_of at h
  split at h
  · rename_i v gap span
    obtain ⟨ts, rfl, w, g1, g2, s1, s2, q⟩ := h
    unfold N_heaviest_of ds_heaviest_of
    simp only [dRet, dRetN, dSeq, dAsg, dDrop, dIfS, dNext, dBreak, dCont, dPar, dSetL, dSetD, dFor, dVar, dC, dOp, dAndV, dOrV, dNotV, dAnd, dOr, dNot, dIf, dTest, dChain, dNil, dCons, dTup, dLst, dLstM, dStar, dNeg, dCB, dCall, dCallK, dMthT, dMth0, dLc, dYes, dISeq, dIStr, dIEnum, dIZip, dIRng1, dIRng2, dSl, dPart, dNoPart, dRaise, dDisp1, dNewD, dRevL, dRevT, dSortSet, dSortSetL, dIRng3, dGet2, dIKeys, dNewT, dSetT, dLstRg, dPar3, dLamA, dLamB, gdName, gdTup, gdCons, gdNil, dstart, dwipe, dAug, rdInt, rdSub, rdLt, rdLe, rdGt, rdGe, rdFdiv, rdMod, rdPow, at0, at1, at2, i30, i31, i32, set0, set1, set2, MO.lst.injEq, gup_same, gup_gup, ad_ii, ad_ss, ad_tt, ad_ll, mu_ii, mu_li, mu_ti, ix_t, ix_l, ix_s, ix_r, ix_w, ln_t, ln_l, ln_s, ln_w, ln_r, sr_t, sr_l, sr_s, sr_r, sl_t, sl_l, sl_s, sl_r, sl_w, tu_t, tu_l, tu_r, li_t, li_l, li_r, lm_t, lm_l, mx2, mn2, ab1, in1, is2, rdIsB, rdNotB, rdIsN, rdNotN, TD.isNon, List.map_cons, List.map_nil, List.length_cons, List.length_nil, List.replicate_succ, List.replicate_zero, List.cons_append, List.nil_append, List.append_nil, Nat.zero_add, Nat.reduceAdd, Nat.reduceSub, Nat.sub_self, Nat.add_sub_cancel, List.getElem?_cons_zero, List.getElem?_cons_succ, List.getElem?_nil, List.set_cons_zero, List.set_cons_succ, List.set_nil, Option.some.injEq, D.int.injEq, D.bl.injEq, D.str.injEq, D.ref.injEq, D.ty.injEq, D.tup.injEq, D.lst.injEq, List.cons.injEq, and_true, true_and, ex_two, ex_two', exists_eq_left', exists_eq_left, exists_and_left, exists_and_right, exists_const, exists_eq_right, exists_eq_right', Bool.not_true, Bool.not_false, if_true, if_false, Bool.false_eq_true, reduceCtorEq, false_and, and_false, decide_true, decide_false]
    refine ⟨ts, rfl, w, g1, g2, s1, s2, fun p kvs F G' HB he gp => ?_⟩
    exact dix_ gp (HB.at_ (-30) (Int.le_refl _) (by omega)) (q _ _ (HB.best (-30) (Int.le_refl _)) he)
  · exact h.elim
theorem trB_tr {t : Truck} (w : WTr t) : trB (trD t) = true := by
  have ha : ∀ a ∈ t.ax, axB (axD a) t.len = true := fun a ha => by
    have := w.pl a ha
    simp only [axB, axD, isIn, Bool.and_eq_true, decide_eq_true_eq]
    omega
  simp only [trB, trD, Bool.and_eq_true, decide_eq_true_eq, List.length_map, List.all_eq_true]
  refine ⟨⟨⟨⟨⟨w.l1, w.l2⟩, w.a1⟩, w.a2⟩, fun x hx => ?_⟩, ?_⟩
  · obtain ⟨a, h, rfl⟩ := List.mem_map.mp hx
    exact ha a h
  · rw [fst0_ax]; exact w.up
theorem trsB_trs {ts : Trucks} (w : WTs ts) : trsB (trsD ts) = true := by
  simp only [trsB, trsD, Bool.and_eq_true, decide_eq_true_eq, List.length_map, List.all_eq_true]
  refine ⟨⟨w.n1, w.n4⟩, fun x hx => ?_⟩
  obtain ⟨t, h, rfl⟩ := List.mem_map.mp hx
  exact trB_tr (w.ok t h)
theorem pure_ax (n : Nat) (a : Int × Int) : pureN (n + 1) (axD a) = true := by
  unfold axD
  rw [pureN_tup]
  cases n <;> rfl
theorem pure_tr (n : Nat) (t : Truck) : pureN (n + 3) (trD t) = true := by
  unfold trD
  rw [pureN_tup]
  have e : pureN (n + 2) (.tup (t.ax.map axD)) = true := by
    rw [pureN_tup, List.all_map, List.all_eq_true]
    exact fun a _ => pure_ax n a
  simp only [List.all_cons, List.all_nil, Bool.and_true, e]
  rfl
theorem pure_trs (n : Nat) (ts : Trucks) : pureN (n + 4) (trsD ts) = true := by
  unfold trsD
  rw [pureN_tup, List.all_map, List.all_eq_true]
  exact fun t _ => pure_tr n t
theorem pur_trs (ts : Trucks) : Pur (trsD ts) := pure_trs 56 ts
theorem pur_frs (c : Convoy) : Pur (frsD c) := pure_frs 58 c
def axD_inj {a b : Int × Int} (h : axD a = axD b) : a = b := by
  injection h with h; injection h with h1 h; injection h with h2 h
  injection h1 with h1; injection h2 with h2
  exact Prod.ext h1 h2
theorem map_inj {α : Type} {f : α → D} (hf : ∀ a b, f a = f b → a = b) : ∀ {a b : List α}, a.map f = b.map f → a = b
  | [], [], _ => rfl
  | [], _ :: _, h => by cases h
  | _ :: _, [], h => by cases h
  | x :: xs, y :: ys, h => by
    rw [List.map_cons, List.map_cons] at h
    injection h with h1 h2
    rw [hf _ _ h1, map_inj hf h2]
theorem trD_inj {a b : Truck} (h : trD a = trD b) : a = b := by
  obtain ⟨l, ax⟩ := a
  obtain ⟨m, bx⟩ := b
  injection h with h; injection h with h1 h; injection h with h2 h
  injection h1 with h1; injection h2 with h2
  have h1 : l = m := h1
  have h3 : ax = bx := map_inj (fun _ _ => axD_inj) h2
  rw [h1, h3]
theorem trsD_inj {a b : Trucks} (h : trsD a = trsD b) : a = b := by
  injection h with h
  exact map_inj (fun _ _ => trD_inj) h
theorem frD_inj {a b : Nat × Int} (h : frD a = frD b) : a = b := by
  injection h with h; injection h with h1 h; injection h with h2 h
  injection h1 with h1; injection h2 with h2
  exact Prod.ext (by omega) h2
theorem frsD_inj {a b : Convoy} (h : frsD a = frsD b) : a = b := by
  injection h with h
  exact map_inj (fun _ _ => frD_inj) h
def Bridge (A : Ad) (x : XD) (G : GH) (v g s : D) (K : Trucks → Int → Int → Prop) : Prop := Pur v ∧ Pur g ∧ Pur s ∧ (trsB v = false → Rfs A x G "trucks") ∧ ∀ ts, v = trsD ts → WTs ts → (isIn g 1 20 = false → Rfs A x G "gap") ∧
  ∀ gap, g = .int gap → 1 ≤ gap → gap ≤ 20 → (isIn s 0 100 = false → Rfs A x G "span") ∧ ∀ span, s = .int span → 0 ≤ span → span ≤ 100 → K ts gap span
theorem Bridge.imp {A : Ad} {x : XD} {G : GH} {v g s : D} {K K' : Trucks → Int → Int → Prop} (h : Bridge A x G v g s K) (hk : ∀ ts gap span, v = trsD ts → g = .int gap → s = .int span → WTs ts → 1 ≤ gap → gap ≤ 20 → 0 ≤ span → span ≤ 100 → K ts gap span → K' ts gap span) : Bridge A x G v g s K' := by
  obtain ⟨h1, h2, h3, h4, h5⟩ := h
  exact ⟨h1, h2, h3, h4, fun ts e w => ⟨(h5 ts e w).1, fun gap eg a b => ⟨((h5 ts e w).2 gap eg a b).1, fun span es c d => hk ts gap span e eg es w a b c d (((h5 ts e w).2 gap eg a b).2 span es c d)⟩⟩⟩
def sp_demand_bridge (A : Ad) : SpD := fun zs G Q x => match zs with
  | [v, g, s] => Bridge A x G v g s fun _ _ _ => Q .non G
  | _ => False
theorem len_demand_bridge {A : Ad} {zs : List D} {G : GH} {Q : DK} {x : XD} (h : sp_demand_bridge A zs G Q x) : zs.length = 3 := by
  unfold sp_demand_bridge at h
  split at h <;> first | rfl | exact h.elim
def ds_demand_bridge (A : Ad) : DS := dSeq (dDrop (dCall (sp_demand A) (dCons (dCall (sp_are_trucks A) (dCons (dVar 0) dNil)) (dCons (dC (.str "trucks")) dNil)))) (dSeq (dDrop (dCall (sp_demand A) (dCons (dCall (sp_is_in A) (dCons (dVar 1) (dCons (dC (.int 1)) (dCons (dC (.int 20)) dNil)))) (dCons (dC (.str "gap")) dNil)))) (dDrop (dCall (sp_demand A) (dCons (dCall (sp_is_in A) (dCons (dVar 2) (dCons (dC (.int 0)) (dCons (dC (.int 100)) dNil)))) (dCons (dC (.str "span")) dNil)))))
def N_demand_bridge : List PySem.Str := ["trucks", "gap", "span"]
theorem read_demand_bridge {A : Ad} {zs : List D} {G : GH} {Q : DK} {x : XD} (h : sp_demand_bridge A zs G Q x) : ds_demand_bridge A { nx := fun _ G' => Q .non G', rt := Q, xx := fun _ => x } (dstart N_demand_bridge zs) G := by
  unfold sp_demand_bridge at h
  split at h
  · rename_i v g s
    obtain ⟨hv, hg, hs, h1, h2⟩ := h
    unfold N_demand_bridge ds_demand_bridge
    simp only [dRet, dRetN, dSeq, dAsg, dDrop, dIfS, dNext, dBreak, dCont, dPar, dSetL, dSetD, dFor, dVar, dC, dOp, dAndV, dOrV, dNotV, dAnd, dOr, dNot, dIf, dTest, dChain, dNil, dCons, dTup, dLst, dLstM, dStar, dNeg, dCB, dCall, dCallK, dMthT, dMth0, dLc, dYes, dISeq, dIStr, dIEnum, dIZip, dIRng1, dIRng2, dSl, dPart, dNoPart, dRaise, dDisp1, dNewD, dRevL, dRevT, dSortSet, dSortSetL, dIRng3, dGet2, dIKeys, dNewT, dSetT, dLstRg, dPar3, dLamA, dLamB, gdName, gdTup, gdCons, gdNil, dstart, dwipe, dAug, rdInt, rdSub, rdLt, rdLe, rdGt, rdGe, rdFdiv, rdMod, rdPow, at0, at1, at2, i30, i31, i32, set0, set1, set2, MO.lst.injEq, gup_same, gup_gup, ad_ii, ad_ss, ad_tt, ad_ll, mu_ii, mu_li, mu_ti, ix_t, ix_l, ix_s, ix_r, ix_w, ln_t, ln_l, ln_s, ln_w, ln_r, sr_t, sr_l, sr_s, sr_r, sl_t, sl_l, sl_s, sl_r, sl_w, tu_t, tu_l, tu_r, li_t, li_l, li_r, lm_t, lm_l, mx2, mn2, ab1, in1, is2, rdIsB, rdNotB, rdIsN, rdNotN, TD.isNon, List.map_cons, List.map_nil, List.length_cons, List.length_nil, List.replicate_succ, List.replicate_zero, List.cons_append, List.nil_append, List.append_nil, Nat.zero_add, Nat.reduceAdd, Nat.reduceSub, Nat.sub_self, Nat.add_sub_cancel, List.getElem?_cons_zero, List.getElem?_cons_succ, List.getElem?_nil, List.set_cons_zero, List.set_cons_succ, List.set_nil, Option.some.injEq, D.int.injEq, D.bl.injEq, D.str.injEq, D.ref.injEq, D.ty.injEq, D.tup.injEq, D.lst.injEq, List.cons.injEq, and_true, true_and, ex_two, ex_two', exists_eq_left', exists_eq_left, exists_and_left, exists_and_right, exists_const, exists_eq_right, exists_eq_right', Bool.not_true, Bool.not_false, if_true, if_false, Bool.false_eq_true, reduceCtorEq, false_and, and_false, decide_true, decide_false, sp_are_trucks, sp_demand, sp_is_in]
    refine ⟨hv, ?_⟩
    cases c : trsB v with
    | false => simpa using h1 c
    | true =>
      obtain ⟨ts, rfl, w⟩ := trsB_ok c
      obtain ⟨h3, h4⟩ := h2 ts rfl w
      simp only [if_true]
      refine ⟨hg, ?_⟩
      cases c2 : isIn g 1 20 with
      | false => simpa using h3 c2
      | true =>
        obtain ⟨gap, rfl, a, b⟩ := isIn_ok c2
        obtain ⟨h5, h6⟩ := h4 gap rfl a b
        simp only [if_true]
        refine ⟨hs, ?_⟩
        cases c3 : isIn s 0 100 with
        | false => simpa using h5 c3
        | true =>
          obtain ⟨span, rfl, a2, b2⟩ := isIn_ok c3
          simp only [if_true]
          exact h6 span rfl a2 b2
  · exact h.elim
def sp_heaviest (A : Ad) : SpD := fun zs G Q x => match zs with
  | [v, g, s] => Bridge A x G v g s fun ts gap span => ∀ q G', Best ts gap span (-30) q → Ext G G' → Q (.int q.1) G'
  | _ => False
theorem len_heaviest {A : Ad} {zs : List D} {G : GH} {Q : DK} {x : XD} (h : sp_heaviest A zs G Q x) : zs.length = 3 := by
  unfold sp_heaviest at h
  split at h <;> first | rfl | exact h.elim
def ds_heaviest (A : Ad) : DS := dSeq (dDrop (dCall (sp_demand_bridge A) (dCons (dVar 0) (dCons (dVar 1) (dCons (dVar 2) dNil))))) (dRet (dOp rdIx (dCall (sp_heaviest_of A) (dCons (dVar 0) (dCons (dVar 1) (dCons (dVar 2) dNil)))) (dC (.int 0))))
def N_heaviest : List PySem.Str := ["trucks", "gap", "span"]
theorem read_heaviest {A : Ad} {zs : List D} {G : GH} {Q : DK} {x : XD} (h : sp_heaviest A zs G Q x) : ds_heaviest A { nx := fun _ G' => Q .non G', rt := Q, xx := fun _ => x } (dstart N_heaviest zs) G := by
  unfold sp_heaviest at h
  split at h
  · rename_i v g s
    unfold N_heaviest ds_heaviest
    simp only [dRet, dRetN, dSeq, dAsg, dDrop, dIfS, dNext, dBreak, dCont, dPar, dSetL, dSetD, dFor, dVar, dC, dOp, dAndV, dOrV, dNotV, dAnd, dOr, dNot, dIf, dTest, dChain, dNil, dCons, dTup, dLst, dLstM, dStar, dNeg, dCB, dCall, dCallK, dMthT, dMth0, dLc, dYes, dISeq, dIStr, dIEnum, dIZip, dIRng1, dIRng2, dSl, dPart, dNoPart, dRaise, dDisp1, dNewD, dRevL, dRevT, dSortSet, dSortSetL, dIRng3, dGet2, dIKeys, dNewT, dSetT, dLstRg, dPar3, dLamA, dLamB, gdName, gdTup, gdCons, gdNil, dstart, dwipe, dAug, rdInt, rdSub, rdLt, rdLe, rdGt, rdGe, rdFdiv, rdMod, rdPow, at0, at1, at2, i30, i31, i32, set0, set1, set2, MO.lst.injEq, gup_same, gup_gup, ad_ii, ad_ss, ad_tt, ad_ll, mu_ii, mu_li, mu_ti, ix_t, ix_l, ix_s, ix_r, ix_w, ln_t, ln_l, ln_s, ln_w, ln_r, sr_t, sr_l, sr_s, sr_r, sl_t, sl_l, sl_s, sl_r, sl_w, tu_t, tu_l, tu_r, li_t, li_l, li_r, lm_t, lm_l, mx2, mn2, ab1, in1, is2, rdIsB, rdNotB, rdIsN, rdNotN, TD.isNon, List.map_cons, List.map_nil, List.length_cons, List.length_nil, List.replicate_succ, List.replicate_zero, List.cons_append, List.nil_append, List.append_nil, Nat.zero_add, Nat.reduceAdd, Nat.reduceSub, Nat.sub_self, Nat.add_sub_cancel, List.getElem?_cons_zero, List.getElem?_cons_succ, List.getElem?_nil, List.set_cons_zero, List.set_cons_succ, List.set_nil, Option.some.injEq, D.int.injEq, D.bl.injEq, D.str.injEq, D.ref.injEq, D.ty.injEq, D.tup.injEq, D.lst.injEq, List.cons.injEq, and_true, true_and, ex_two, ex_two', exists_eq_left', exists_eq_left, exists_and_left, exists_and_right, exists_const, exists_eq_right, exists_eq_right', Bool.not_true, Bool.not_false, if_true, if_false, Bool.false_eq_true, reduceCtorEq, false_and, and_false, decide_true, decide_false, sp_demand_bridge]
    refine h.imp fun ts gap span e1 e2 e3 w a b c d k => ?_
    subst e1 e2 e3
    refine ⟨ts, rfl, w, a, b, c, by omega, fun q G' hb he => ?_⟩
    exact ⟨_, at0, k q G' hb he⟩
  · exact h.elim
def sp_convoy (A : Ad) : SpD := fun zs G Q x => match zs with
  | [v, g, s] => Bridge A x G v g s fun ts gap span => ∀ q G', Best ts gap span (-30) q → Ext G G' → Q (frsD q.2) G'
  | _ => False
theorem len_convoy {A : Ad} {zs : List D} {G : GH} {Q : DK} {x : XD} (h : sp_convoy A zs G Q x) : zs.length = 3 := by
  unfold sp_convoy at h
  split at h <;> first | rfl | exact h.elim
def ds_convoy (A : Ad) : DS := dSeq (dDrop (dCall (sp_demand_bridge A) (dCons (dVar 0) (dCons (dVar 1) (dCons (dVar 2) dNil))))) (dRet (dOp rdIx (dCall (sp_heaviest_of A) (dCons (dVar 0) (dCons (dVar 1) (dCons (dVar 2) dNil)))) (dC (.int 1))))
def N_convoy : List PySem.Str := ["trucks", "gap", "span"]
theorem read_convoy {A : Ad} {zs : List D} {G : GH} {Q : DK} {x : XD} (h : sp_convoy A zs G Q x) : ds_convoy A { nx := fun _ G' => Q .non G', rt := Q, xx := fun _ => x } (dstart N_convoy zs) G := by
  unfold sp_convoy at h
  split at h
  · rename_i v g s
    unfold N_convoy ds_convoy
    simp only [dRet, dRetN, dSeq, dAsg, dDrop, dIfS, dNext, dBreak, dCont, dPar, dSetL, dSetD, dFor, dVar, dC, dOp, dAndV, dOrV, dNotV, dAnd, dOr, dNot, dIf, dTest, dChain, dNil, dCons, dTup, dLst, dLstM, dStar, dNeg, dCB, dCall, dCallK, dMthT, dMth0, dLc, dYes, dISeq, dIStr, dIEnum, dIZip, dIRng1, dIRng2, dSl, dPart, dNoPart, dRaise, dDisp1, dNewD, dRevL, dRevT, dSortSet, dSortSetL, dIRng3, dGet2, dIKeys, dNewT, dSetT, dLstRg, dPar3, dLamA, dLamB, gdName, gdTup, gdCons, gdNil, dstart, dwipe, dAug, rdInt, rdSub, rdLt, rdLe, rdGt, rdGe, rdFdiv, rdMod, rdPow, at0, at1, at2, i30, i31, i32, set0, set1, set2, MO.lst.injEq, gup_same, gup_gup, ad_ii, ad_ss, ad_tt, ad_ll, mu_ii, mu_li, mu_ti, ix_t, ix_l, ix_s, ix_r, ix_w, ln_t, ln_l, ln_s, ln_w, ln_r, sr_t, sr_l, sr_s, sr_r, sl_t, sl_l, sl_s, sl_r, sl_w, tu_t, tu_l, tu_r, li_t, li_l, li_r, lm_t, lm_l, mx2, mn2, ab1, in1, is2, rdIsB, rdNotB, rdIsN, rdNotN, TD.isNon, List.map_cons, List.map_nil, List.length_cons, List.length_nil, List.replicate_succ, List.replicate_zero, List.cons_append, List.nil_append, List.append_nil, Nat.zero_add, Nat.reduceAdd, Nat.reduceSub, Nat.sub_self, Nat.add_sub_cancel, List.getElem?_cons_zero, List.getElem?_cons_succ, List.getElem?_nil, List.set_cons_zero, List.set_cons_succ, List.set_nil, Option.some.injEq, D.int.injEq, D.bl.injEq, D.str.injEq, D.ref.injEq, D.ty.injEq, D.tup.injEq, D.lst.injEq, List.cons.injEq, and_true, true_and, ex_two, ex_two', exists_eq_left', exists_eq_left, exists_and_left, exists_and_right, exists_const, exists_eq_right, exists_eq_right', Bool.not_true, Bool.not_false, if_true, if_false, Bool.false_eq_true, reduceCtorEq, false_and, and_false, decide_true, decide_false, sp_demand_bridge]
    refine h.imp fun ts gap span e1 e2 e3 w a b c d k => ?_
    subst e1 e2 e3
    refine ⟨ts, rfl, w, a, b, c, by omega, fun q G' hb he => ?_⟩
    exact ⟨_, at1, k q G' hb he⟩
  · exact h.elim
/-! ### load -/
def sp_load (A : Ad) : SpD := fun zs G Q x => match zs with
  | [v, s, f] => Pur v ∧ Pur s ∧ Pur f ∧ (trsB v = false → Rfs A x G "trucks") ∧ ∀ ts, v = trsD ts → WTs ts → (isIn s 0 100 = false → Rfs A x G "span") ∧
      ∀ span, s = .int span → 0 ≤ span → span ≤ 100 → (frB ts.length f = false → Rfs A x G "fronts") ∧ ∀ fs, f = frsD fs → frB ts.length f = true → (∀ p ∈ fs, p.1 < ts.length) → Q (.int (loadW ts span fs)) G
  | _ => False
theorem len_load {A : Ad} {zs : List D} {G : GH} {Q : DK} {x : XD} (h : sp_load A zs G Q x) : zs.length = 3 := by
  unfold sp_load at h
  split at h <;> first | rfl | exact h.elim
def ds_load (A : Ad) : DS := dSeq (dDrop (dCall (sp_demand A) (dCons (dCall (sp_are_trucks A) (dCons (dVar 0) dNil)) (dCons (dC (.str "trucks")) dNil)))) (dSeq (dDrop (dCall (sp_demand A) (dCons (dCall (sp_is_in A) (dCons (dVar 1) (dCons (dC (.int 0)) (dCons (dC (.int 100)) dNil)))) (dCons (dC (.str "span")) dNil)))) (dSeq (dDrop (dCall (sp_demand A) (dCons (dCall (sp_are_fronts A) (dCons (dVar 0) (dCons (dVar 2) dNil))) (dCons (dC (.str "fronts")) dNil)))) (dRet (dCall (sp_load_of A) (dCons (dVar 0) (dCons (dVar 1) (dCons (dVar 2) dNil)))))))
def N_load : List PySem.Str := ["trucks", "span", "fronts"]
theorem read_load {A : Ad} {zs : List D} {G : GH} {Q : DK} {x : XD} (h : sp_load A zs G Q x) : ds_load A { nx := fun _ G' => Q .non G', rt := Q, xx := fun _ => x } (dstart N_load zs) G := by
  unfold sp_load at h
  split at h
  · rename_i v s f
    obtain ⟨hv, hs, hf, h1, h2⟩ := h
    unfold N_load ds_load
    simp only [dRet, dRetN, dSeq, dAsg, dDrop, dIfS, dNext, dBreak, dCont, dPar, dSetL, dSetD, dFor, dVar, dC, dOp, dAndV, dOrV, dNotV, dAnd, dOr, dNot, dIf, dTest, dChain, dNil, dCons, dTup, dLst, dLstM, dStar, dNeg, dCB, dCall, dCallK, dMthT, dMth0, dLc, dYes, dISeq, dIStr, dIEnum, dIZip, dIRng1, dIRng2, dSl, dPart, dNoPart, dRaise, dDisp1, dNewD, dRevL, dRevT, dSortSet, dSortSetL, dIRng3, dGet2, dIKeys, dNewT, dSetT, dLstRg, dPar3, dLamA, dLamB, gdName, gdTup, gdCons, gdNil, dstart, dwipe, dAug, rdInt, rdSub, rdLt, rdLe, rdGt, rdGe, rdFdiv, rdMod, rdPow, at0, at1, at2, i30, i31, i32, set0, set1, set2, MO.lst.injEq, gup_same, gup_gup, ad_ii, ad_ss, ad_tt, ad_ll, mu_ii, mu_li, mu_ti, ix_t, ix_l, ix_s, ix_r, ix_w, ln_t, ln_l, ln_s, ln_w, ln_r, sr_t, sr_l, sr_s, sr_r, sl_t, sl_l, sl_s, sl_r, sl_w, tu_t, tu_l, tu_r, li_t, li_l, li_r, lm_t, lm_l, mx2, mn2, ab1, in1, is2, rdIsB, rdNotB, rdIsN, rdNotN, TD.isNon, List.map_cons, List.map_nil, List.length_cons, List.length_nil, List.replicate_succ, List.replicate_zero, List.cons_append, List.nil_append, List.append_nil, Nat.zero_add, Nat.reduceAdd, Nat.reduceSub, Nat.sub_self, Nat.add_sub_cancel, List.getElem?_cons_zero, List.getElem?_cons_succ, List.getElem?_nil, List.set_cons_zero, List.set_cons_succ, List.set_nil, Option.some.injEq, D.int.injEq, D.bl.injEq, D.str.injEq, D.ref.injEq, D.ty.injEq, D.tup.injEq, D.lst.injEq, List.cons.injEq, and_true, true_and, ex_two, ex_two', exists_eq_left', exists_eq_left, exists_and_left, exists_and_right, exists_const, exists_eq_right, exists_eq_right', Bool.not_true, Bool.not_false, if_true, if_false, Bool.false_eq_true, reduceCtorEq, false_and, and_false, decide_true, decide_false, sp_are_trucks, sp_demand, sp_is_in]
    refine ⟨hv, ?_⟩
    cases c : trsB v with
    | false => simpa using h1 c
    | true =>
      obtain ⟨ts, rfl, w⟩ := trsB_ok c
      obtain ⟨h3, h4⟩ := h2 ts rfl w
      simp only [if_true]
      refine ⟨hs, ?_⟩
      cases c3 : isIn s 0 100 with
      | false => simpa using h3 c3
      | true =>
        obtain ⟨span, rfl, a2, b2⟩ := isIn_ok c3
        obtain ⟨h5, h6⟩ := h4 span rfl a2 b2
        simp only [if_true]
        have e : sp_are_fronts A [trsD ts, f] G (fun y G2 => match y with | .bl b => if b = true then sp_load_of A [trsD ts, .int span, f] G2 Q x else x A.cBad [("name", .str "fronts")] G2 | _ => False) x := by
          refine ⟨hf, ?_⟩
          rw [List.length_map]
          cases c4 : frB ts.length f with
          | false => simpa using h5 c4
          | true =>
            obtain ⟨fs, rfl, l, hb⟩ := frB_ok c4
            have hi : ∀ p ∈ fs, p.1 < ts.length := fun p hp => by have := (hb p hp).1; omega
            simp only [if_true]
            exact ⟨ts, fs, rfl, rfl, hi, h6 fs rfl c4 hi⟩
        exact e
  · exact h.elim
end K06
namespace K06
open PySem L2 TD
/-! ### is_convoy -/
def dec (d : D) : Nat × Int := match d with
  | .tup [.int i, .int f] => (i.toNat, f)
  | _ => (0, 0)
def decs (v : D) : Convoy := match v with
  | .tup xs => xs.map dec
  | _ => []
theorem decs_frs (fs : Convoy) : decs (frsD fs) = fs := by
  unfold decs frsD
  simp only [List.map_map]
  refine (List.map_congr_left fun p _ => ?_).trans (List.map_id fs)
  show ((p.1 : Int).toNat, p.2) = p
  exact Prod.ext (Int.toNat_natCast _) rfl
def gapOk (ts : Trucks) (gap : Int) (p : (Nat × Int) × (Nat × Int)) : Bool := decide (p.1.2 + (tOf ts p.1.1).len + gap ≤ p.2.2)
def okGaps (ts : Trucks) (gap : Int) (fs : Convoy) : Bool := (List.zip fs (fs.drop 1)).all (gapOk ts gap)
def cvB (ts : Trucks) (gap : Int) (v : D) : Bool := frB ts.length v && okGaps ts gap (decs v)
def sp_is_convoy (A : Ad) : SpD := fun zs G Q x => match zs with
  | [v, g, s, u] => Pur u ∧ Bridge A x G v g s fun ts gap span => ∀ q G', Best ts gap span (-30) q → Ext G G' → Q (.bl (cvB ts gap u && decide (loadW ts span (decs u) = q.1))) G'
  | _ => False
theorem len_is_convoy {A : Ad} {zs : List D} {G : GH} {Q : DK} {x : XD} (h : sp_is_convoy A zs G Q x) : zs.length = 4 := by
  unfold sp_is_convoy at h
  split at h <;> first | rfl | exact h.elim
def ds_is_convoy (A : Ad) : DS := dSeq (dDrop (dCall (sp_demand_bridge A) (dCons (dVar 0) (dCons (dVar 1) (dCons (dVar 2) dNil))))) (dSeq (dIfS (dNot (dTest (dCall (sp_are_fronts A) (dCons (dVar 0) (dCons (dVar 3) dNil))))) (dRet (dC (.bl false))) dNext) (dSeq (dFor (dIZip (dCons (dVar 3) (dCons (dSl (dVar 3) (dPart (dC (.int 1))) dNoPart) dNil))) (gdTup (gdCons (gdName 4) (gdCons (gdName 5) gdNil)) 2) (dIfS (dTest (dOp rdLt (dOp rdIx (dVar 5) (dC (.int 1))) (dOp rdAdd (dOp rdAdd (dOp rdIx (dVar 4) (dC (.int 1))) (dOp rdIx (dOp rdIx (dVar 0) (dOp rdIx (dVar 4) (dC (.int 0)))) (dC (.int 0)))) (dVar 1)))) (dRet (dC (.bl false))) dNext)) (dRet (dOp rdEq (dCall (sp_load_of A) (dCons (dVar 0) (dCons (dVar 2) (dCons (dVar 3) dNil)))) (dOp rdIx (dCall (sp_heaviest_of A) (dCons (dVar 0) (dCons (dVar 1) (dCons (dVar 2) dNil)))) (dC (.int 0)))))))
def N_is_convoy : List PySem.Str := ["trucks", "gap", "span", "value", "one", "two"]
theorem best_ex {ts : Trucks} (w : WTs ts) {gap span : Int} (hg : 1 ≤ gap) : ∀ (n : Nat) (f : Int), span + 1 - f ≤ n → ∃ q, Best ts gap span f q
  | 0, f, h => ⟨_, best_far w hg (by omega)⟩
  | n + 1, f, h => by
    by_cases hf : span < f
    · exact ⟨_, best_far w hg hf⟩
    · obtain ⟨q0, h0⟩ := best_ex (span := span) w hg n (f + 1) (by omega)
      have hB : ∀ i, ∃ q, i < ts.length → Best ts gap span (f + (tOf ts i).len + gap) q := fun i => by
        by_cases hi : i < ts.length
        · have := (w.tr hi).l1
          obtain ⟨q, hq⟩ := best_ex (span := span) w hg n (f + (tOf ts i).len + gap) (by omega)
          exact ⟨q, fun _ => hq⟩
        · exact ⟨(0, []), fun z => absurd z hi⟩
      obtain ⟨B, hB⟩ := Classical.axiomOfChoice hB
      have mx : ∀ (L : List (Int × Convoy)) (q : Int × Convoy), ∃ m ∈ q :: L, ∀ r ∈ q :: L, r.1 ≤ m.1 := fun L q => by
        obtain ⟨m, a, _, b⟩ := max_row L q
        exact ⟨m, a, b⟩
      obtain ⟨m, hm, hmx⟩ := mx ((List.range ts.length).map fun i => rowOf ts span f i (B i)) q0
      refine ⟨m, best_step w hg (by omega) h0 hB ?_ (hmx _ List.mem_cons_self) fun i hi => hmx _ (List.mem_cons_of_mem _ (List.mem_map.mpr ⟨i, List.mem_range.mpr hi, rfl⟩))⟩
      rcases List.mem_cons.mp hm with e | e
      · exact .inl e
      · obtain ⟨i, hi, e⟩ := List.mem_map.mp e
        exact .inr ⟨i, List.mem_range.mp hi, e.symm⟩
theorem best_ex30 {ts : Trucks} (w : WTs ts) {gap span : Int} (hg : 1 ≤ gap) : ∃ q, Best ts gap span (-30) q := best_ex w hg (span + 31).toNat (-30) (by omega)
theorem zipD_map {α β : Type} (f : α → D) (g : β → D) : ∀ (a : List α) (b : List β), zipD (a.map f) (b.map g) = (List.zip a b).map fun p => D.tup [f p.1, g p.2]
  | [], _ => by unfold zipD; simp
  | _ :: _, [] => by unfold zipD; simp
  | a :: as, b :: bs => by
    have ih := zipD_map f g as bs
    unfold zipD at ih ⊢
    rw [List.map_cons, List.map_cons, List.zipWith_cons_cons, List.zip_cons_cons, List.map_cons, ih]
theorem read_is_convoy {A : Ad} {zs : List D} {G : GH} {Q : DK} {x : XD} (h : sp_is_convoy A zs G Q x) : ds_is_convoy A { nx := fun _ G' => Q .non G', rt := Q, xx := fun _ => x } (dstart N_is_convoy zs) G := by
  unfold sp_is_convoy at h
  split at h
  · rename_i v g s u
    obtain ⟨hu, h⟩ := h
    unfold N_is_convoy ds_is_convoy
    simp only [dRet, dRetN, dSeq, dAsg, dDrop, dIfS, dNext, dBreak, dCont, dPar, dSetL, dSetD, dFor, dVar, dC, dOp, dAndV, dOrV, dNotV, dAnd, dOr, dNot, dIf, dTest, dChain, dNil, dCons, dTup, dLst, dLstM, dStar, dNeg, dCB, dCall, dCallK, dMthT, dMth0, dLc, dYes, dISeq, dIStr, dIEnum, dIZip, dIRng1, dIRng2, dSl, dPart, dNoPart, dRaise, dDisp1, dNewD, dRevL, dRevT, dSortSet, dSortSetL, dIRng3, dGet2, dIKeys, dNewT, dSetT, dLstRg, dPar3, dLamA, dLamB, gdName, gdTup, gdCons, gdNil, dstart, dwipe, dAug, rdInt, rdSub, rdLt, rdLe, rdGt, rdGe, rdFdiv, rdMod, rdPow, at0, at1, at2, i30, i31, i32, set0, set1, set2, MO.lst.injEq, gup_same, gup_gup, ad_ii, ad_ss, ad_tt, ad_ll, mu_ii, mu_li, mu_ti, ix_t, ix_l, ix_s, ix_r, ix_w, ln_t, ln_l, ln_s, ln_w, ln_r, sr_t, sr_l, sr_s, sr_r, sl_t, sl_l, sl_s, sl_r, sl_w, tu_t, tu_l, tu_r, li_t, li_l, li_r, lm_t, lm_l, mx2, mn2, ab1, in1, is2, rdIsB, rdNotB, rdIsN, rdNotN, TD.isNon, List.map_cons, List.map_nil, List.length_cons, List.length_nil, List.replicate_succ, List.replicate_zero, List.cons_append, List.nil_append, List.append_nil, Nat.zero_add, Nat.reduceAdd, Nat.reduceSub, Nat.sub_self, Nat.add_sub_cancel, List.getElem?_cons_zero, List.getElem?_cons_succ, List.getElem?_nil, List.set_cons_zero, List.set_cons_succ, List.set_nil, Option.some.injEq, D.int.injEq, D.bl.injEq, D.str.injEq, D.ref.injEq, D.ty.injEq, D.tup.injEq, D.lst.injEq, List.cons.injEq, and_true, true_and, ex_two, ex_two', exists_eq_left', exists_eq_left, exists_and_left, exists_and_right, exists_const, exists_eq_right, exists_eq_right', Bool.not_true, Bool.not_false, if_true, if_false, Bool.false_eq_true, reduceCtorEq, false_and, and_false, decide_true, decide_false, sp_demand_bridge]
    refine h.imp fun ts gap span e1 e2 e3 w a b c d k => ?_
    subst e1 e2 e3
    obtain ⟨q0, hq0⟩ := best_ex30 (span := span) w a
    have no : cvB ts gap u = false → Q (.bl false) G := fun e => by
      have := k q0 G hq0 (Ext.refl G)
      rw [e, Bool.false_and] at this
      exact this
    refine ⟨hu, _, rfl, ?_⟩
    rw [List.length_map]
    cases c4 : frB ts.length u with
    | false =>
      simp only [Bool.not_false, if_true]
      exact no (by unfold cvB; rw [c4]; rfl)
    | true =>
      obtain ⟨fs, rfl, l, hb⟩ := frB_ok c4
      have hi : ∀ p ∈ fs, p.1 < ts.length := fun p hp => by have := (hb p hp).1; omega
      unfold cvB at no k
      rw [c4, decs_frs] at no k
      simp only [Bool.true_and] at no k
      simp only [Bool.not_true, Bool.false_eq_true, if_false, frsD, dRet, dRetN, dSeq, dAsg, dDrop, dIfS, dNext, dBreak, dCont, dPar, dSetL, dSetD, dFor, dVar, dC, dOp, dAndV, dOrV, dNotV, dAnd, dOr, dNot, dIf, dTest, dChain, dNil, dCons, dTup, dLst, dLstM, dStar, dNeg, dCB, dCall, dCallK, dMthT, dMth0, dLc, dYes, dISeq, dIStr, dIEnum, dIZip, dIRng1, dIRng2, dSl, dPart, dNoPart, dRaise, dDisp1, dNewD, dRevL, dRevT, dSortSet, dSortSetL, dIRng3, dGet2, dIKeys, dNewT, dSetT, dLstRg, dPar3, dLamA, dLamB, gdName, gdTup, gdCons, gdNil, dstart, dwipe, dAug, rdInt, rdSub, rdLt, rdLe, rdGt, rdGe, rdFdiv, rdMod, rdPow, at0, at1, at2, i30, i31, i32, set0, set1, set2, MO.lst.injEq, gup_same, gup_gup, ad_ii, ad_ss, ad_tt, ad_ll, mu_ii, mu_li, mu_ti, ix_t, ix_l, ix_s, ix_r, ix_w, ln_t, ln_l, ln_s, ln_w, ln_r, sr_t, sr_l, sr_s, sr_r, sl_t, sl_l, sl_s, sl_r, sl_w, tu_t, tu_l, tu_r, li_t, li_l, li_r, lm_t, lm_l, mx2, mn2, ab1, in1, is2, rdIsB, rdNotB, rdIsN, rdNotN, TD.isNon, List.map_cons, List.map_nil, List.length_cons, List.length_nil, List.replicate_succ, List.replicate_zero, List.cons_append, List.nil_append, List.append_nil, Nat.zero_add, Nat.reduceAdd, Nat.reduceSub, Nat.sub_self, Nat.add_sub_cancel, List.getElem?_cons_zero, List.getElem?_cons_succ, List.getElem?_nil, List.set_cons_zero, List.set_cons_succ, List.set_nil, Option.some.injEq, D.int.injEq, D.bl.injEq, D.str.injEq, D.ref.injEq, D.ty.injEq, D.tup.injEq, D.lst.injEq, List.cons.injEq, and_true, true_and, ex_two, ex_two', exists_eq_left', exists_eq_left, exists_and_left, exists_and_right, exists_const, exists_eq_right, exists_eq_right', Bool.not_true, Bool.not_false, if_true, if_false, Bool.false_eq_true, reduceCtorEq, false_and, and_false, decide_true, decide_false, cutX_1]
      rw [← List.map_drop, zipD_map]
      obtain ⟨Z, hZ⟩ : ∃ Z, Z = List.zip fs (fs.drop 1) := ⟨_, rfl⟩
      have hmem : ∀ p ∈ Z, p.1.1 < ts.length := fun p hp => hi _ (List.of_mem_zip (by rw [hZ] at hp; exact hp)).1
      have hok : okGaps ts gap fs = Z.all (gapOk ts gap) := by rw [hZ]; rfl
      rw [hok] at no k
      rw [← hZ]
      refine dLoop_inv (fun j ρ G' => G' = G ∧ ∃ o4 o5, ρ = [some (trsD ts), some (.int gap), some (.int span), some (.tup (fs.map frD)), o4, o5] ∧ (Z.take j).all (gapOk ts gap) = true) 0 ⟨rfl, none, none, rfl, rfl⟩ (fun _ _ _ _ _ _ => by first | trivial | exact ⟨trivial, trivial⟩) (fun j dd ρ G' hj hJ K1 hK => ?_) (fun ρ G' hJ => ?_)
      · obtain ⟨rfl, o4, o5, rfl, hall⟩ := hJ
        rw [Nat.zero_add] at *
        rw [List.getElem?_map] at hj
        obtain ⟨p, hp, rfl⟩ := Option.map_eq_some_iff.mp hj
        have hpm := List.mem_of_getElem? hp
        unfold frD trsD
        simp only [dRet, dRetN, dSeq, dAsg, dDrop, dIfS, dNext, dBreak, dCont, dPar, dSetL, dSetD, dFor, dVar, dC, dOp, dAndV, dOrV, dNotV, dAnd, dOr, dNot, dIf, dTest, dChain, dNil, dCons, dTup, dLst, dLstM, dStar, dNeg, dCB, dCall, dCallK, dMthT, dMth0, dLc, dYes, dISeq, dIStr, dIEnum, dIZip, dIRng1, dIRng2, dSl, dPart, dNoPart, dRaise, dDisp1, dNewD, dRevL, dRevT, dSortSet, dSortSetL, dIRng3, dGet2, dIKeys, dNewT, dSetT, dLstRg, dPar3, dLamA, dLamB, gdName, gdTup, gdCons, gdNil, dstart, dwipe, dAug, rdInt, rdSub, rdLt, rdLe, rdGt, rdGe, rdFdiv, rdMod, rdPow, at0, at1, at2, i30, i31, i32, set0, set1, set2, MO.lst.injEq, gup_same, gup_gup, ad_ii, ad_ss, ad_tt, ad_ll, mu_ii, mu_li, mu_ti, ix_t, ix_l, ix_s, ix_r, ix_w, ln_t, ln_l, ln_s, ln_w, ln_r, sr_t, sr_l, sr_s, sr_r, sl_t, sl_l, sl_s, sl_r, sl_w, tu_t, tu_l, tu_r, li_t, li_l, li_r, lm_t, lm_l, mx2, mn2, ab1, in1, is2, rdIsB, rdNotB, rdIsN, rdNotN, TD.isNon, List.map_cons, List.map_nil, List.length_cons, List.length_nil, List.replicate_succ, List.replicate_zero, List.cons_append, List.nil_append, List.append_nil, Nat.zero_add, Nat.reduceAdd, Nat.reduceSub, Nat.sub_self, Nat.add_sub_cancel, List.getElem?_cons_zero, List.getElem?_cons_succ, List.getElem?_nil, List.set_cons_zero, List.set_cons_succ, List.set_nil, Option.some.injEq, D.int.injEq, D.bl.injEq, D.str.injEq, D.ref.injEq, D.ty.injEq, D.tup.injEq, D.lst.injEq, List.cons.injEq, and_true, true_and, ex_two, ex_two', exists_eq_left', exists_eq_left, exists_and_left, exists_and_right, exists_const, exists_eq_right, exists_eq_right', Bool.not_true, Bool.not_false, if_true, if_false, Bool.false_eq_true, reduceCtorEq, false_and, and_false, decide_true, decide_false]
        refine ⟨_, tOf_at (hmem p hpm), ?_⟩
        unfold trD
        simp only [dRet, dRetN, dSeq, dAsg, dDrop, dIfS, dNext, dBreak, dCont, dPar, dSetL, dSetD, dFor, dVar, dC, dOp, dAndV, dOrV, dNotV, dAnd, dOr, dNot, dIf, dTest, dChain, dNil, dCons, dTup, dLst, dLstM, dStar, dNeg, dCB, dCall, dCallK, dMthT, dMth0, dLc, dYes, dISeq, dIStr, dIEnum, dIZip, dIRng1, dIRng2, dSl, dPart, dNoPart, dRaise, dDisp1, dNewD, dRevL, dRevT, dSortSet, dSortSetL, dIRng3, dGet2, dIKeys, dNewT, dSetT, dLstRg, dPar3, dLamA, dLamB, gdName, gdTup, gdCons, gdNil, dstart, dwipe, dAug, rdInt, rdSub, rdLt, rdLe, rdGt, rdGe, rdFdiv, rdMod, rdPow, at0, at1, at2, i30, i31, i32, set0, set1, set2, MO.lst.injEq, gup_same, gup_gup, ad_ii, ad_ss, ad_tt, ad_ll, mu_ii, mu_li, mu_ti, ix_t, ix_l, ix_s, ix_r, ix_w, ln_t, ln_l, ln_s, ln_w, ln_r, sr_t, sr_l, sr_s, sr_r, sl_t, sl_l, sl_s, sl_r, sl_w, tu_t, tu_l, tu_r, li_t, li_l, li_r, lm_t, lm_l, mx2, mn2, ab1, in1, is2, rdIsB, rdNotB, rdIsN, rdNotN, TD.isNon, List.map_cons, List.map_nil, List.length_cons, List.length_nil, List.replicate_succ, List.replicate_zero, List.cons_append, List.nil_append, List.append_nil, Nat.zero_add, Nat.reduceAdd, Nat.reduceSub, Nat.sub_self, Nat.add_sub_cancel, List.getElem?_cons_zero, List.getElem?_cons_succ, List.getElem?_nil, List.set_cons_zero, List.set_cons_succ, List.set_nil, Option.some.injEq, D.int.injEq, D.bl.injEq, D.str.injEq, D.ref.injEq, D.ty.injEq, D.tup.injEq, D.lst.injEq, List.cons.injEq, and_true, true_and, ex_two, ex_two', exists_eq_left', exists_eq_left, exists_and_left, exists_and_right, exists_const, exists_eq_right, exists_eq_right', Bool.not_true, Bool.not_false, if_true, if_false, Bool.false_eq_true, reduceCtorEq, false_and, and_false, decide_true, decide_false]
        by_cases hc : p.2.2 < p.1.2 + (tOf ts p.1.1).len + gap
        · simp only [hc, decide_true, if_true]
          refine no ?_
          rw [List.all_eq_false]
          exact ⟨p, hpm, by unfold gapOk; simp; omega⟩
        · simp only [hc, decide_false, Bool.false_eq_true, if_false]
          refine hK _ _ ⟨rfl, _, _, rfl, ?_⟩
          rw [List.take_succ, hp, List.all_append, hall]
          have : gapOk ts gap p = true := by unfold gapOk; simp; omega
          simp [this]
      · obtain ⟨rfl, o4, o5, rfl, hall⟩ := hJ
        rw [List.length_map, Nat.zero_add, List.take_length] at hall
        rw [hall] at k
        simp only [Bool.true_and] at k
        simp only [dRet, dRetN, dSeq, dAsg, dDrop, dIfS, dNext, dBreak, dCont, dPar, dSetL, dSetD, dFor, dVar, dC, dOp, dAndV, dOrV, dNotV, dAnd, dOr, dNot, dIf, dTest, dChain, dNil, dCons, dTup, dLst, dLstM, dStar, dNeg, dCB, dCall, dCallK, dMthT, dMth0, dLc, dYes, dISeq, dIStr, dIEnum, dIZip, dIRng1, dIRng2, dSl, dPart, dNoPart, dRaise, dDisp1, dNewD, dRevL, dRevT, dSortSet, dSortSetL, dIRng3, dGet2, dIKeys, dNewT, dSetT, dLstRg, dPar3, dLamA, dLamB, gdName, gdTup, gdCons, gdNil, dstart, dwipe, dAug, rdInt, rdSub, rdLt, rdLe, rdGt, rdGe, rdFdiv, rdMod, rdPow, at0, at1, at2, i30, i31, i32, set0, set1, set2, MO.lst.injEq, gup_same, gup_gup, ad_ii, ad_ss, ad_tt, ad_ll, mu_ii, mu_li, mu_ti, ix_t, ix_l, ix_s, ix_r, ix_w, ln_t, ln_l, ln_s, ln_w, ln_r, sr_t, sr_l, sr_s, sr_r, sl_t, sl_l, sl_s, sl_r, sl_w, tu_t, tu_l, tu_r, li_t, li_l, li_r, lm_t, lm_l, mx2, mn2, ab1, in1, is2, rdIsB, rdNotB, rdIsN, rdNotN, TD.isNon, List.map_cons, List.map_nil, List.length_cons, List.length_nil, List.replicate_succ, List.replicate_zero, List.cons_append, List.nil_append, List.append_nil, Nat.zero_add, Nat.reduceAdd, Nat.reduceSub, Nat.sub_self, Nat.add_sub_cancel, List.getElem?_cons_zero, List.getElem?_cons_succ, List.getElem?_nil, List.set_cons_zero, List.set_cons_succ, List.set_nil, Option.some.injEq, D.int.injEq, D.bl.injEq, D.str.injEq, D.ref.injEq, D.ty.injEq, D.tup.injEq, D.lst.injEq, List.cons.injEq, and_true, true_and, ex_two, ex_two', exists_eq_left', exists_eq_left, exists_and_left, exists_and_right, exists_const, exists_eq_right, exists_eq_right', Bool.not_true, Bool.not_false, if_true, if_false, Bool.false_eq_true, reduceCtorEq, false_and, and_false, decide_true, decide_false]
        refine ⟨ts, fs, rfl, rfl, hi, ts, rfl, w, a, b, c, by omega, fun q G2 hq he => ?_⟩
        have er : rowE q = .tup [.int q.1, frsD q.2] := rfl
        rw [er]
        simp only [dRet, dRetN, dSeq, dAsg, dDrop, dIfS, dNext, dBreak, dCont, dPar, dSetL, dSetD, dFor, dVar, dC, dOp, dAndV, dOrV, dNotV, dAnd, dOr, dNot, dIf, dTest, dChain, dNil, dCons, dTup, dLst, dLstM, dStar, dNeg, dCB, dCall, dCallK, dMthT, dMth0, dLc, dYes, dISeq, dIStr, dIEnum, dIZip, dIRng1, dIRng2, dSl, dPart, dNoPart, dRaise, dDisp1, dNewD, dRevL, dRevT, dSortSet, dSortSetL, dIRng3, dGet2, dIKeys, dNewT, dSetT, dLstRg, dPar3, dLamA, dLamB, gdName, gdTup, gdCons, gdNil, dstart, dwipe, dAug, rdInt, rdSub, rdLt, rdLe, rdGt, rdGe, rdFdiv, rdMod, rdPow, at0, at1, at2, i30, i31, i32, set0, set1, set2, MO.lst.injEq, gup_same, gup_gup, ad_ii, ad_ss, ad_tt, ad_ll, mu_ii, mu_li, mu_ti, ix_t, ix_l, ix_s, ix_r, ix_w, ln_t, ln_l, ln_s, ln_w, ln_r, sr_t, sr_l, sr_s, sr_r, sl_t, sl_l, sl_s, sl_r, sl_w, tu_t, tu_l, tu_r, li_t, li_l, li_r, lm_t, lm_l, mx2, mn2, ab1, in1, is2, rdIsB, rdNotB, rdIsN, rdNotN, TD.isNon, List.map_cons, List.map_nil, List.length_cons, List.length_nil, List.replicate_succ, List.replicate_zero, List.cons_append, List.nil_append, List.append_nil, Nat.zero_add, Nat.reduceAdd, Nat.reduceSub, Nat.sub_self, Nat.add_sub_cancel, List.getElem?_cons_zero, List.getElem?_cons_succ, List.getElem?_nil, List.set_cons_zero, List.set_cons_succ, List.set_nil, Option.some.injEq, D.int.injEq, D.bl.injEq, D.str.injEq, D.ref.injEq, D.ty.injEq, D.tup.injEq, D.lst.injEq, List.cons.injEq, and_true, true_and, ex_two, ex_two', exists_eq_left', exists_eq_left, exists_and_left, exists_and_right, exists_const, exists_eq_right, exists_eq_right', Bool.not_true, Bool.not_false, if_true, if_false, Bool.false_eq_true, reduceCtorEq, false_and, and_false, decide_true, decide_false]
        refine eq_pur (pur_int _) (pur_int _) ?_
        rw [deq_ii]
        have e8 : (loadW ts span fs == q.1) = decide (loadW ts span fs = q.1) := by by_cases h : loadW ts span fs = q.1 <;> simp [h]
        rw [e8]
        exact k q G2 hq he
  · exact h.elim
end K06
namespace K06
open PySem L2 TD
def sp_least_gap (A : Ad) : SpD := fun zs G Q x => match zs with
  | [v, s, l] => Pur v ∧ Pur s ∧ Pur l ∧ (trsB v = false → Rfs A x G "trucks") ∧ ∀ ts, v = trsD ts → WTs ts → (isIn s 0 100 = false → Rfs A x G "span") ∧
      ∀ span, s = .int span → 0 ≤ span → span ≤ 100 → (isIn l 1 10000 = false → Rfs A x G "limit") ∧ ∀ limit, l = .int limit → 1 ≤ limit → limit ≤ 10000 →
        (∀ (gap : Int) G', 1 ≤ gap → gap ≤ 20 → Ext G G' → (∃ q, Best ts gap span (-30) q ∧ q.1 ≤ limit) → (∀ g : Int, 1 ≤ g → g < gap → ∃ q, Best ts g span (-30) q ∧ limit < q.1) → Q (.int gap) G') ∧
        ∀ G', Ext G G' → (∀ g : Int, 1 ≤ g → g ≤ 20 → ∃ q, Best ts g span (-30) q ∧ limit < q.1) → Q .non G'
  | _ => False
theorem len_least_gap {A : Ad} {zs : List D} {G : GH} {Q : DK} {x : XD} (h : sp_least_gap A zs G Q x) : zs.length = 3 := by
  unfold sp_least_gap at h
  split at h <;> first | rfl | exact h.elim
def ds_least_gap (A : Ad) : DS := dSeq (dDrop (dCall (sp_demand A) (dCons (dCall (sp_are_trucks A) (dCons (dVar 0) dNil)) (dCons (dC (.str "trucks")) dNil)))) (dSeq (dDrop (dCall (sp_demand A) (dCons (dCall (sp_is_in A) (dCons (dVar 1) (dCons (dC (.int 0)) (dCons (dC (.int 100)) dNil)))) (dCons (dC (.str "span")) dNil)))) (dSeq (dDrop (dCall (sp_demand A) (dCons (dCall (sp_is_in A) (dCons (dVar 2) (dCons (dC (.int 1)) (dCons (dC (.int 10000)) dNil)))) (dCons (dC (.str "limit")) dNil)))) (dSeq (dFor (dIRng2 (dCons (dC (.int 1)) (dCons (dOp rdAdd (dC (.int 20)) (dC (.int 1))) dNil))) (gdName 3) (dIfS (dTest (dOp rdLe (dOp rdIx (dCall (sp_heaviest_of A) (dCons (dVar 0) (dCons (dVar 3) (dCons (dVar 1) dNil)))) (dC (.int 0))) (dVar 2))) (dRet (dVar 3)) dNext)) (dRet (dC .non)))))
def N_least_gap : List PySem.Str := ["trucks", "span", "limit", "gap"]
theorem read_least_gap {A : Ad} {zs : List D} {G : GH} {Q : DK} {x : XD} (h : sp_least_gap A zs G Q x) : ds_least_gap A { nx := fun _ G' => Q .non G', rt := Q, xx := fun _ => x } (dstart N_least_gap zs) G := by
  unfold sp_least_gap at h
  split at h
  · rename_i v s l
    obtain ⟨hv, hs, hl, h1, h2⟩ := h
    unfold N_least_gap ds_least_gap
    simp only [dRet, dRetN, dSeq, dAsg, dDrop, dIfS, dNext, dBreak, dCont, dPar, dSetL, dSetD, dFor, dVar, dC, dOp, dAndV, dOrV, dNotV, dAnd, dOr, dNot, dIf, dTest, dChain, dNil, dCons, dTup, dLst, dLstM, dStar, dNeg, dCB, dCall, dCallK, dMthT, dMth0, dLc, dYes, dISeq, dIStr, dIEnum, dIZip, dIRng1, dIRng2, dSl, dPart, dNoPart, dRaise, dDisp1, dNewD, dRevL, dRevT, dSortSet, dSortSetL, dIRng3, dGet2, dIKeys, dNewT, dSetT, dLstRg, dPar3, dLamA, dLamB, gdName, gdTup, gdCons, gdNil, dstart, dwipe, dAug, rdInt, rdSub, rdLt, rdLe, rdGt, rdGe, rdFdiv, rdMod, rdPow, at0, at1, at2, i30, i31, i32, set0, set1, set2, MO.lst.injEq, gup_same, gup_gup, ad_ii, ad_ss, ad_tt, ad_ll, mu_ii, mu_li, mu_ti, ix_t, ix_l, ix_s, ix_r, ix_w, ln_t, ln_l, ln_s, ln_w, ln_r, sr_t, sr_l, sr_s, sr_r, sl_t, sl_l, sl_s, sl_r, sl_w, tu_t, tu_l, tu_r, li_t, li_l, li_r, lm_t, lm_l, mx2, mn2, ab1, in1, is2, rdIsB, rdNotB, rdIsN, rdNotN, TD.isNon, List.map_cons, List.map_nil, List.length_cons, List.length_nil, List.replicate_succ, List.replicate_zero, List.cons_append, List.nil_append, List.append_nil, Nat.zero_add, Nat.reduceAdd, Nat.reduceSub, Nat.sub_self, Nat.add_sub_cancel, List.getElem?_cons_zero, List.getElem?_cons_succ, List.getElem?_nil, List.set_cons_zero, List.set_cons_succ, List.set_nil, Option.some.injEq, D.int.injEq, D.bl.injEq, D.str.injEq, D.ref.injEq, D.ty.injEq, D.tup.injEq, D.lst.injEq, List.cons.injEq, and_true, true_and, ex_two, ex_two', exists_eq_left', exists_eq_left, exists_and_left, exists_and_right, exists_const, exists_eq_right, exists_eq_right', Bool.not_true, Bool.not_false, if_true, if_false, Bool.false_eq_true, reduceCtorEq, false_and, and_false, decide_true, decide_false, sp_are_trucks, sp_demand, sp_is_in]
    refine ⟨hv, ?_⟩
    cases c : trsB v with
    | false => simpa using h1 c
    | true =>
      obtain ⟨ts, rfl, w⟩ := trsB_ok c
      obtain ⟨h3, h4⟩ := h2 ts rfl w
      simp only [if_true]
      refine ⟨hs, ?_⟩
      cases c3 : isIn s 0 100 with
      | false => simpa using h3 c3
      | true =>
        obtain ⟨span, rfl, a2, b2⟩ := isIn_ok c3
        obtain ⟨h5, h6⟩ := h4 span rfl a2 b2
        simp only [if_true]
        refine ⟨hl, ?_⟩
        cases c4 : isIn l 1 10000 with
        | false => simpa using h5 c4
        | true =>
          obtain ⟨limit, rfl, a3, b3⟩ := isIn_ok c4
          obtain ⟨q1, q2⟩ := h6 limit rfl a3 b3
          simp only [if_true]
          refine ⟨⟨by omega, by omega, by omega, by omega⟩, sz _ (by decide), ?_⟩
          have en : ((20 : Int) + 1 - 1).toNat = 20 := by decide
          rw [en]
          refine dLoop_inv (fun j ρ G' => ∃ o3, ρ = [some (trsD ts), some (.int span), some (.int limit), o3] ∧ Ext G G' ∧ ∀ g : Int, 1 ≤ g → g < 1 + j → ∃ q, Best ts g span (-30) q ∧ limit < q.1) 0 ⟨none, rfl, Ext.refl G, fun g _ _ => by omega⟩ (fun _ _ _ _ _ _ => trivial) (fun j dd ρ G' hj hJ K1 hK => ?_) (fun ρ G' hJ => ?_)
          · obtain ⟨o3, rfl, he, hall⟩ := hJ
            obtain ⟨hj1, rfl⟩ := rngD_get hj
            rw [Nat.zero_add] at *
            simp only [dRet, dRetN, dSeq, dAsg, dDrop, dIfS, dNext, dBreak, dCont, dPar, dSetL, dSetD, dFor, dVar, dC, dOp, dAndV, dOrV, dNotV, dAnd, dOr, dNot, dIf, dTest, dChain, dNil, dCons, dTup, dLst, dLstM, dStar, dNeg, dCB, dCall, dCallK, dMthT, dMth0, dLc, dYes, dISeq, dIStr, dIEnum, dIZip, dIRng1, dIRng2, dSl, dPart, dNoPart, dRaise, dDisp1, dNewD, dRevL, dRevT, dSortSet, dSortSetL, dIRng3, dGet2, dIKeys, dNewT, dSetT, dLstRg, dPar3, dLamA, dLamB, gdName, gdTup, gdCons, gdNil, dstart, dwipe, dAug, rdInt, rdSub, rdLt, rdLe, rdGt, rdGe, rdFdiv, rdMod, rdPow, at0, at1, at2, i30, i31, i32, set0, set1, set2, MO.lst.injEq, gup_same, gup_gup, ad_ii, ad_ss, ad_tt, ad_ll, mu_ii, mu_li, mu_ti, ix_t, ix_l, ix_s, ix_r, ix_w, ln_t, ln_l, ln_s, ln_w, ln_r, sr_t, sr_l, sr_s, sr_r, sl_t, sl_l, sl_s, sl_r, sl_w, tu_t, tu_l, tu_r, li_t, li_l, li_r, lm_t, lm_l, mx2, mn2, ab1, in1, is2, rdIsB, rdNotB, rdIsN, rdNotN, TD.isNon, List.map_cons, List.map_nil, List.length_cons, List.length_nil, List.replicate_succ, List.replicate_zero, List.cons_append, List.nil_append, List.append_nil, Nat.zero_add, Nat.reduceAdd, Nat.reduceSub, Nat.sub_self, Nat.add_sub_cancel, List.getElem?_cons_zero, List.getElem?_cons_succ, List.getElem?_nil, List.set_cons_zero, List.set_cons_succ, List.set_nil, Option.some.injEq, D.int.injEq, D.bl.injEq, D.str.injEq, D.ref.injEq, D.ty.injEq, D.tup.injEq, D.lst.injEq, List.cons.injEq, and_true, true_and, ex_two, ex_two', exists_eq_left', exists_eq_left, exists_and_left, exists_and_right, exists_const, exists_eq_right, exists_eq_right', Bool.not_true, Bool.not_false, if_true, if_false, Bool.false_eq_true, reduceCtorEq, false_and, and_false, decide_true, decide_false]
            refine ⟨ts, rfl, w, by omega, by omega, a2, by omega, fun q G2 hq he2 => ?_⟩
            have er : rowE q = .tup [.int q.1, frsD q.2] := rfl
            rw [er]
            simp only [dRet, dRetN, dSeq, dAsg, dDrop, dIfS, dNext, dBreak, dCont, dPar, dSetL, dSetD, dFor, dVar, dC, dOp, dAndV, dOrV, dNotV, dAnd, dOr, dNot, dIf, dTest, dChain, dNil, dCons, dTup, dLst, dLstM, dStar, dNeg, dCB, dCall, dCallK, dMthT, dMth0, dLc, dYes, dISeq, dIStr, dIEnum, dIZip, dIRng1, dIRng2, dSl, dPart, dNoPart, dRaise, dDisp1, dNewD, dRevL, dRevT, dSortSet, dSortSetL, dIRng3, dGet2, dIKeys, dNewT, dSetT, dLstRg, dPar3, dLamA, dLamB, gdName, gdTup, gdCons, gdNil, dstart, dwipe, dAug, rdInt, rdSub, rdLt, rdLe, rdGt, rdGe, rdFdiv, rdMod, rdPow, at0, at1, at2, i30, i31, i32, set0, set1, set2, MO.lst.injEq, gup_same, gup_gup, ad_ii, ad_ss, ad_tt, ad_ll, mu_ii, mu_li, mu_ti, ix_t, ix_l, ix_s, ix_r, ix_w, ln_t, ln_l, ln_s, ln_w, ln_r, sr_t, sr_l, sr_s, sr_r, sl_t, sl_l, sl_s, sl_r, sl_w, tu_t, tu_l, tu_r, li_t, li_l, li_r, lm_t, lm_l, mx2, mn2, ab1, in1, is2, rdIsB, rdNotB, rdIsN, rdNotN, TD.isNon, List.map_cons, List.map_nil, List.length_cons, List.length_nil, List.replicate_succ, List.replicate_zero, List.cons_append, List.nil_append, List.append_nil, Nat.zero_add, Nat.reduceAdd, Nat.reduceSub, Nat.sub_self, Nat.add_sub_cancel, List.getElem?_cons_zero, List.getElem?_cons_succ, List.getElem?_nil, List.set_cons_zero, List.set_cons_succ, List.set_nil, Option.some.injEq, D.int.injEq, D.bl.injEq, D.str.injEq, D.ref.injEq, D.ty.injEq, D.tup.injEq, D.lst.injEq, List.cons.injEq, and_true, true_and, ex_two, ex_two', exists_eq_left', exists_eq_left, exists_and_left, exists_and_right, exists_const, exists_eq_right, exists_eq_right', Bool.not_true, Bool.not_false, if_true, if_false, Bool.false_eq_true, reduceCtorEq, false_and, and_false, decide_true, decide_false]
            by_cases hc : q.1 ≤ limit
            · simp only [hc, decide_true, if_true]
              exact q1 _ G2 (by omega) (by omega) (he.trans he2) ⟨q, hq, hc⟩ hall
            · simp only [hc, decide_false, Bool.false_eq_true, if_false]
              refine hK _ _ ⟨_, rfl, he.trans he2, fun g h1 h2 => ?_⟩
              by_cases hg : g = 1 + (j : Int)
              · subst hg
                exact ⟨q, hq, by omega⟩
              · exact hall g h1 (by omega)
          · obtain ⟨o3, rfl, he, hall⟩ := hJ
            rw [rngD_len] at hall
            simp only [dRet, dRetN, dSeq, dAsg, dDrop, dIfS, dNext, dBreak, dCont, dPar, dSetL, dSetD, dFor, dVar, dC, dOp, dAndV, dOrV, dNotV, dAnd, dOr, dNot, dIf, dTest, dChain, dNil, dCons, dTup, dLst, dLstM, dStar, dNeg, dCB, dCall, dCallK, dMthT, dMth0, dLc, dYes, dISeq, dIStr, dIEnum, dIZip, dIRng1, dIRng2, dSl, dPart, dNoPart, dRaise, dDisp1, dNewD, dRevL, dRevT, dSortSet, dSortSetL, dIRng3, dGet2, dIKeys, dNewT, dSetT, dLstRg, dPar3, dLamA, dLamB, gdName, gdTup, gdCons, gdNil, dstart, dwipe, dAug, rdInt, rdSub, rdLt, rdLe, rdGt, rdGe, rdFdiv, rdMod, rdPow, at0, at1, at2, i30, i31, i32, set0, set1, set2, MO.lst.injEq, gup_same, gup_gup, ad_ii, ad_ss, ad_tt, ad_ll, mu_ii, mu_li, mu_ti, ix_t, ix_l, ix_s, ix_r, ix_w, ln_t, ln_l, ln_s, ln_w, ln_r, sr_t, sr_l, sr_s, sr_r, sl_t, sl_l, sl_s, sl_r, sl_w, tu_t, tu_l, tu_r, li_t, li_l, li_r, lm_t, lm_l, mx2, mn2, ab1, in1, is2, rdIsB, rdNotB, rdIsN, rdNotN, TD.isNon, List.map_cons, List.map_nil, List.length_cons, List.length_nil, List.replicate_succ, List.replicate_zero, List.cons_append, List.nil_append, List.append_nil, Nat.zero_add, Nat.reduceAdd, Nat.reduceSub, Nat.sub_self, Nat.add_sub_cancel, List.getElem?_cons_zero, List.getElem?_cons_succ, List.getElem?_nil, List.set_cons_zero, List.set_cons_succ, List.set_nil, Option.some.injEq, D.int.injEq, D.bl.injEq, D.str.injEq, D.ref.injEq, D.ty.injEq, D.tup.injEq, D.lst.injEq, List.cons.injEq, and_true, true_and, ex_two, ex_two', exists_eq_left', exists_eq_left, exists_and_left, exists_and_right, exists_const, exists_eq_right, exists_eq_right', Bool.not_true, Bool.not_false, if_true, if_false, Bool.false_eq_true, reduceCtorEq, false_and, and_false, decide_true, decide_false]
            exact q2 G' he fun g h1 h2 => hall g h1 (by omega)
  · exact h.elim
/-! ### the law's own reckoning -/
def sp__law_on (A : Ad) : SpD := fun zs G Q _ => match zs with
  | [v, .int span, .int front] => ∃ t, v = trD t ∧ Q (.int (onW t span front)) G
  | _ => False
theorem len__law_on {A : Ad} {zs : List D} {G : GH} {Q : DK} {x : XD} (h : sp__law_on A zs G Q x) : zs.length = 3 := by
  unfold sp__law_on at h
  split at h <;> first | rfl | exact h.elim
def ds__law_on (A : Ad) : DS := dRet (dCB rdSum (dCons (dLc (dISeq (dOp rdIx (dVar 0) (dC (.int 1)))) (gdTup (gdCons (gdName 3) (gdCons (gdName 4) gdNil)) 2) (dAnd (dTest (dOp rdLe (dC (.int 0)) (dOp rdAdd (dVar 2) (dVar 3)))) (dTest (dOp rdLe (dOp rdAdd (dVar 2) (dVar 3)) (dVar 1)))) (dVar 4) [3, 4]) dNil))
def N__law_on : List PySem.Str := ["truck", "span", "front", "place", "weight"]
theorem read__law_on {A : Ad} {zs : List D} {G : GH} {Q : DK} {x : XD} (h : sp__law_on A zs G Q x) : ds__law_on A { nx := fun _ G' => Q .non G', rt := Q, xx := fun _ => x } (dstart N__law_on zs) G := by
  unfold sp__law_on at h
  split at h
  · rename_i v span front
    obtain ⟨t, rfl, q⟩ := h
    unfold N__law_on ds__law_on trD
    simp only [dRet, dRetN, dSeq, dAsg, dDrop, dIfS, dNext, dBreak, dCont, dPar, dSetL, dSetD, dFor, dVar, dC, dOp, dAndV, dOrV, dNotV, dAnd, dOr, dNot, dIf, dTest, dChain, dNil, dCons, dTup, dLst, dLstM, dStar, dNeg, dCB, dCall, dCallK, dMthT, dMth0, dLc, dYes, dISeq, dIStr, dIEnum, dIZip, dIRng1, dIRng2, dSl, dPart, dNoPart, dRaise, dDisp1, dNewD, dRevL, dRevT, dSortSet, dSortSetL, dIRng3, dGet2, dIKeys, dNewT, dSetT, dLstRg, dPar3, dLamA, dLamB, gdName, gdTup, gdCons, gdNil, dstart, dwipe, dAug, rdInt, rdSub, rdLt, rdLe, rdGt, rdGe, rdFdiv, rdMod, rdPow, at0, at1, at2, i30, i31, i32, set0, set1, set2, MO.lst.injEq, gup_same, gup_gup, ad_ii, ad_ss, ad_tt, ad_ll, mu_ii, mu_li, mu_ti, ix_t, ix_l, ix_s, ix_r, ix_w, ln_t, ln_l, ln_s, ln_w, ln_r, sr_t, sr_l, sr_s, sr_r, sl_t, sl_l, sl_s, sl_r, sl_w, tu_t, tu_l, tu_r, li_t, li_l, li_r, lm_t, lm_l, mx2, mn2, ab1, in1, is2, rdIsB, rdNotB, rdIsN, rdNotN, TD.isNon, List.map_cons, List.map_nil, List.length_cons, List.length_nil, List.replicate_succ, List.replicate_zero, List.cons_append, List.nil_append, List.append_nil, Nat.zero_add, Nat.reduceAdd, Nat.reduceSub, Nat.sub_self, Nat.add_sub_cancel, List.getElem?_cons_zero, List.getElem?_cons_succ, List.getElem?_nil, List.set_cons_zero, List.set_cons_succ, List.set_nil, Option.some.injEq, D.int.injEq, D.bl.injEq, D.str.injEq, D.ref.injEq, D.ty.injEq, D.tup.injEq, D.lst.injEq, List.cons.injEq, and_true, true_and, ex_two, ex_two', exists_eq_left', exists_eq_left, exists_and_left, exists_and_right, exists_const, exists_eq_right, exists_eq_right', Bool.not_true, Bool.not_false, if_true, if_false, Bool.false_eq_true, reduceCtorEq, false_and, and_false, decide_true, decide_false]
    refine dComp_filter (onD span front) sndD trivial (fun d hd K1 k1 => ?_) ?_
    · obtain ⟨a, ha, rfl⟩ := List.mem_map.mp hd
      simp only [axD, onD, isOn, sndD, dRet, dRetN, dSeq, dAsg, dDrop, dIfS, dNext, dBreak, dCont, dPar, dSetL, dSetD, dFor, dVar, dC, dOp, dAndV, dOrV, dNotV, dAnd, dOr, dNot, dIf, dTest, dChain, dNil, dCons, dTup, dLst, dLstM, dStar, dNeg, dCB, dCall, dCallK, dMthT, dMth0, dLc, dYes, dISeq, dIStr, dIEnum, dIZip, dIRng1, dIRng2, dSl, dPart, dNoPart, dRaise, dDisp1, dNewD, dRevL, dRevT, dSortSet, dSortSetL, dIRng3, dGet2, dIKeys, dNewT, dSetT, dLstRg, dPar3, dLamA, dLamB, gdName, gdTup, gdCons, gdNil, dstart, dwipe, dAug, rdInt, rdSub, rdLt, rdLe, rdGt, rdGe, rdFdiv, rdMod, rdPow, at0, at1, at2, i30, i31, i32, set0, set1, set2, MO.lst.injEq, gup_same, gup_gup, ad_ii, ad_ss, ad_tt, ad_ll, mu_ii, mu_li, mu_ti, ix_t, ix_l, ix_s, ix_r, ix_w, ln_t, ln_l, ln_s, ln_w, ln_r, sr_t, sr_l, sr_s, sr_r, sl_t, sl_l, sl_s, sl_r, sl_w, tu_t, tu_l, tu_r, li_t, li_l, li_r, lm_t, lm_l, mx2, mn2, ab1, in1, is2, rdIsB, rdNotB, rdIsN, rdNotN, TD.isNon, List.map_cons, List.map_nil, List.length_cons, List.length_nil, List.replicate_succ, List.replicate_zero, List.cons_append, List.nil_append, List.append_nil, Nat.zero_add, Nat.reduceAdd, Nat.reduceSub, Nat.sub_self, Nat.add_sub_cancel, List.getElem?_cons_zero, List.getElem?_cons_succ, List.getElem?_nil, List.set_cons_zero, List.set_cons_succ, List.set_nil, Option.some.injEq, D.int.injEq, D.bl.injEq, D.str.injEq, D.ref.injEq, D.ty.injEq, D.tup.injEq, D.lst.injEq, List.cons.injEq, and_true, true_and, ex_two, ex_two', exists_eq_left', exists_eq_left, exists_and_left, exists_and_right, exists_const, exists_eq_right, exists_eq_right', Bool.not_true, Bool.not_false, if_true, if_false, Bool.false_eq_true, reduceCtorEq, false_and, and_false, decide_true, decide_false] at k1 ⊢
      by_cases c1 : 0 ≤ front + a.1
      · by_cases c2 : front + a.1 ≤ span
        · simpa [c1, c2] using k1
        · simpa [c1, c2] using k1
      · simpa [c1] using k1
    · rw [List.nil_append, filter_ax]
      exact ⟨_, _, rfl, dInts_map _, q⟩
  · exact h.elim
end K06
namespace K06
open PySem L2 TD
/-- the dict of the law's own reckoning -/
structure HoldV (ts : Trucks) (gap span lo : Int) (kvs : List (Key × D)) : Prop where
  at_ : ∀ f, lo ≤ f → f ≤ span → ∃ q, Best ts gap span f q ∧ valD kvs (.inl f) = some (.int q.1)
  far : ∀ f, span < f → valD kvs (.inl f) = none
  keys : ∀ k ∈ kvs.map (·.1), ∃ f : Int, k = .inl f ∧ lo ≤ f ∧ f ≤ span
theorem HoldV.get {ts : Trucks} {gap span lo : Int} {kvs : List (Key × D)} (h : HoldV ts gap span lo kvs) (w : WTs ts) (hg : 1 ≤ gap) {f : Int} (hf : lo ≤ f) : ∃ q, Best ts gap span f q ∧ (valD kvs (.inl f)).getD (.int 0) = .int q.1 := by
  by_cases c : f ≤ span
  · obtain ⟨q, a, b⟩ := h.at_ f hf c
    exact ⟨q, a, by rw [b]; rfl⟩
  · exact ⟨_, best_far w hg (by omega), by rw [h.far f (by omega)]; rfl⟩
def sp__law_most (A : Ad) : SpD := fun zs G Q _ => match zs with
  | [v, .int gap, .int span] => ∃ ts, v = trsD ts ∧ WTs ts ∧ 1 ≤ gap ∧ gap ≤ 20 ∧ 0 ≤ span ∧ span ≤ 101 ∧ ∀ q G', Best ts gap span (-30) q → Ext G G' → Q (.int q.1) G'
  | _ => False
theorem len__law_most {A : Ad} {zs : List D} {G : GH} {Q : DK} {x : XD} (h : sp__law_most A zs G Q x) : zs.length = 3 := by
  unfold sp__law_most at h
  split at h <;> first | rfl | exact h.elim
def ds__law_most (A : Ad) : DS := dSeq (dAsg dNewD (gdName 3)) (dSeq (dFor (dIRng1 (dCons (dOp rdAdd (dVar 2) (dC (.int 31))) dNil)) (gdName 4) (dSeq (dAsg (dOp rdSub (dVar 2) (dVar 4)) (gdName 5)) (dSeq (dAsg (dGet2 (dVar 3) (dOp rdAdd (dVar 5) (dC (.int 1))) (dC (.int 0))) (gdName 6)) (dSeq (dFor (dISeq (dVar 0)) (gdName 7) (dAsg (dCB rdMax2 (dCons (dVar 6) (dCons (dOp rdAdd (dCall (sp__law_on A) (dCons (dVar 7) (dCons (dVar 2) (dCons (dVar 5) dNil)))) (dGet2 (dVar 3) (dOp rdAdd (dOp rdAdd (dVar 5) (dOp rdIx (dVar 7) (dC (.int 0)))) (dVar 1)) (dC (.int 0)))) dNil))) (gdName 6))) (dSetD (dVar 6) (dVar 3) (dVar 5)))))) (dRet (dCB rdMaxL (dCons (dLc (dIKeys (dVar 3)) (gdName 5) dYes (dOp rdDIx (dVar 3) (dVar 5)) [5]) dNil))))
def N__law_most : List PySem.Str := ["trucks", "gap", "span", "best", "back", "front", "here", "truck"]
theorem read__law_most {A : Ad} {zs : List D} {G : GH} {Q : DK} {x : XD} (h : sp__law_most A zs G Q x) : ds__law_most A { nx := fun _ G' => Q .non G', rt := Q, xx := fun _ => x } (dstart N__law_most zs) G := by
  unfold sp__law_most at h
  split at h
  · rename_i v gap span
    obtain ⟨ts, rfl, w, g1, g2, s1, s2, q⟩ := h
    have n4 := w.n4
    unfold N__law_most ds__law_most
    simp only [dRet, dRetN, dSeq, dAsg, dDrop, dIfS, dNext, dBreak, dCont, dPar, dSetL, dSetD, dFor, dVar, dC, dOp, dAndV, dOrV, dNotV, dAnd, dOr, dNot, dIf, dTest, dChain, dNil, dCons, dTup, dLst, dLstM, dStar, dNeg, dCB, dCall, dCallK, dMthT, dMth0, dLc, dYes, dISeq, dIStr, dIEnum, dIZip, dIRng1, dIRng2, dSl, dPart, dNoPart, dRaise, dDisp1, dNewD, dRevL, dRevT, dSortSet, dSortSetL, dIRng3, dGet2, dIKeys, dNewT, dSetT, dLstRg, dPar3, dLamA, dLamB, gdName, gdTup, gdCons, gdNil, dstart, dwipe, dAug, rdInt, rdSub, rdLt, rdLe, rdGt, rdGe, rdFdiv, rdMod, rdPow, at0, at1, at2, i30, i31, i32, set0, set1, set2, MO.lst.injEq, gup_same, gup_gup, ad_ii, ad_ss, ad_tt, ad_ll, mu_ii, mu_li, mu_ti, ix_t, ix_l, ix_s, ix_r, ix_w, ln_t, ln_l, ln_s, ln_w, ln_r, sr_t, sr_l, sr_s, sr_r, sl_t, sl_l, sl_s, sl_r, sl_w, tu_t, tu_l, tu_r, li_t, li_l, li_r, lm_t, lm_l, mx2, mn2, ab1, in1, is2, rdIsB, rdNotB, rdIsN, rdNotN, TD.isNon, List.map_cons, List.map_nil, List.length_cons, List.length_nil, List.replicate_succ, List.replicate_zero, List.cons_append, List.nil_append, List.append_nil, Nat.zero_add, Nat.reduceAdd, Nat.reduceSub, Nat.sub_self, Nat.add_sub_cancel, List.getElem?_cons_zero, List.getElem?_cons_succ, List.getElem?_nil, List.set_cons_zero, List.set_cons_succ, List.set_nil, Option.some.injEq, D.int.injEq, D.bl.injEq, D.str.injEq, D.ref.injEq, D.ty.injEq, D.tup.injEq, D.lst.injEq, List.cons.injEq, and_true, true_and, ex_two, ex_two', exists_eq_left', exists_eq_left, exists_and_left, exists_and_right, exists_const, exists_eq_right, exists_eq_right', Bool.not_true, Bool.not_false, if_true, if_false, Bool.false_eq_true, reduceCtorEq, false_and, and_false, decide_true, decide_false]
    refine fun p hp => ⟨by omega, sz _ (by omega), ?_⟩
    have en : (span + 31).toNat = (span + 31).toNat := rfl
    refine dLoop_inv (fun k ρ G' => ∃ o4 o5 o6 o7 kvs, ρ = [some (trsD ts), some (.int gap), some (.int span), some (.ref p), o4, o5, o6, o7] ∧ G' p = some (.dK kvs) ∧ kvs.length ≤ k ∧ Ext G G' ∧ HoldV ts gap span (span + 1 - (k : Int)) kvs) 0
      ⟨none, none, none, none, [], rfl, gup_same, Nat.le_refl _, Ext.new hp, ⟨fun f h1 h2 => by omega, fun f _ => rfl, fun k hk => (List.not_mem_nil hk).elim⟩⟩ (fun _ _ _ _ _ _ => trivial) (fun k dd ρ G' hi hI K1 hK => ?_) (fun ρ G' hI => ?_)
    · obtain ⟨o4, o5, o6, o7, kvs, rfl, gp, hk, keep, HV⟩ := hI
      obtain ⟨hk1, rfl⟩ := rngD_get hi
      rw [Nat.zero_add] at *
      have ee : span - (0 + (k : Int)) = span - k := by omega
      simp only [dRet, dRetN, dSeq, dAsg, dDrop, dIfS, dNext, dBreak, dCont, dPar, dSetL, dSetD, dFor, dVar, dC, dOp, dAndV, dOrV, dNotV, dAnd, dOr, dNot, dIf, dTest, dChain, dNil, dCons, dTup, dLst, dLstM, dStar, dNeg, dCB, dCall, dCallK, dMthT, dMth0, dLc, dYes, dISeq, dIStr, dIEnum, dIZip, dIRng1, dIRng2, dSl, dPart, dNoPart, dRaise, dDisp1, dNewD, dRevL, dRevT, dSortSet, dSortSetL, dIRng3, dGet2, dIKeys, dNewT, dSetT, dLstRg, dPar3, dLamA, dLamB, gdName, gdTup, gdCons, gdNil, dstart, dwipe, dAug, rdInt, rdSub, rdLt, rdLe, rdGt, rdGe, rdFdiv, rdMod, rdPow, at0, at1, at2, i30, i31, i32, set0, set1, set2, MO.lst.injEq, gup_same, gup_gup, ad_ii, ad_ss, ad_tt, ad_ll, mu_ii, mu_li, mu_ti, ix_t, ix_l, ix_s, ix_r, ix_w, ln_t, ln_l, ln_s, ln_w, ln_r, sr_t, sr_l, sr_s, sr_r, sl_t, sl_l, sl_s, sl_r, sl_w, tu_t, tu_l, tu_r, li_t, li_l, li_r, lm_t, lm_l, mx2, mn2, ab1, in1, is2, rdIsB, rdNotB, rdIsN, rdNotN, TD.isNon, List.map_cons, List.map_nil, List.length_cons, List.length_nil, List.replicate_succ, List.replicate_zero, List.cons_append, List.nil_append, List.append_nil, Nat.zero_add, Nat.reduceAdd, Nat.reduceSub, Nat.sub_self, Nat.add_sub_cancel, List.getElem?_cons_zero, List.getElem?_cons_succ, List.getElem?_nil, List.set_cons_zero, List.set_cons_succ, List.set_nil, Option.some.injEq, D.int.injEq, D.bl.injEq, D.str.injEq, D.ref.injEq, D.ty.injEq, D.tup.injEq, D.lst.injEq, List.cons.injEq, and_true, true_and, ex_two, ex_two', exists_eq_left', exists_eq_left, exists_and_left, exists_and_right, exists_const, exists_eq_right, exists_eq_right', Bool.not_true, Bool.not_false, if_true, if_false, Bool.false_eq_true, reduceCtorEq, false_and, and_false, decide_true, decide_false]
      rw [ee]
      obtain ⟨f, hf⟩ : ∃ f : Int, f = span - k := ⟨_, rfl⟩
      rw [← hf]
      refine ⟨⟨kvs, .inl gp⟩, .inl (f + 1), rfl, kvs, .inl gp, ?_⟩
      have hB : ∀ i, ∃ q, i < ts.length → Best ts gap span (f + (tOf ts i).len + gap) q ∧ (valD kvs (.inl (f + (tOf ts i).len + gap))).getD (.int 0) = .int q.1 := fun i => by
        by_cases hi : i < ts.length
        · have := (w.tr hi).l1
          obtain ⟨q, hq⟩ := HV.get w g1 (show span + 1 - (k : Int) ≤ f + (tOf ts i).len + gap by omega)
          exact ⟨q, fun _ => hq⟩
        · exact ⟨(0, []), fun z => absurd z hi⟩
      obtain ⟨B, hB⟩ := Classical.axiomOfChoice hB
      obtain ⟨q0, hq0, e0⟩ := HV.get w g1 (show span + 1 - (k : Int) ≤ f + 1 by omega)
      rw [e0]
      unfold trsD
      simp only [dRet, dRetN, dSeq, dAsg, dDrop, dIfS, dNext, dBreak, dCont, dPar, dSetL, dSetD, dFor, dVar, dC, dOp, dAndV, dOrV, dNotV, dAnd, dOr, dNot, dIf, dTest, dChain, dNil, dCons, dTup, dLst, dLstM, dStar, dNeg, dCB, dCall, dCallK, dMthT, dMth0, dLc, dYes, dISeq, dIStr, dIEnum, dIZip, dIRng1, dIRng2, dSl, dPart, dNoPart, dRaise, dDisp1, dNewD, dRevL, dRevT, dSortSet, dSortSetL, dIRng3, dGet2, dIKeys, dNewT, dSetT, dLstRg, dPar3, dLamA, dLamB, gdName, gdTup, gdCons, gdNil, dstart, dwipe, dAug, rdInt, rdSub, rdLt, rdLe, rdGt, rdGe, rdFdiv, rdMod, rdPow, at0, at1, at2, i30, i31, i32, set0, set1, set2, MO.lst.injEq, gup_same, gup_gup, ad_ii, ad_ss, ad_tt, ad_ll, mu_ii, mu_li, mu_ti, ix_t, ix_l, ix_s, ix_r, ix_w, ln_t, ln_l, ln_s, ln_w, ln_r, sr_t, sr_l, sr_s, sr_r, sl_t, sl_l, sl_s, sl_r, sl_w, tu_t, tu_l, tu_r, li_t, li_l, li_r, lm_t, lm_l, mx2, mn2, ab1, in1, is2, rdIsB, rdNotB, rdIsN, rdNotN, TD.isNon, List.map_cons, List.map_nil, List.length_cons, List.length_nil, List.replicate_succ, List.replicate_zero, List.cons_append, List.nil_append, List.append_nil, Nat.zero_add, Nat.reduceAdd, Nat.reduceSub, Nat.sub_self, Nat.add_sub_cancel, List.getElem?_cons_zero, List.getElem?_cons_succ, List.getElem?_nil, List.set_cons_zero, List.set_cons_succ, List.set_nil, Option.some.injEq, D.int.injEq, D.bl.injEq, D.str.injEq, D.ref.injEq, D.ty.injEq, D.tup.injEq, D.lst.injEq, List.cons.injEq, and_true, true_and, ex_two, ex_two', exists_eq_left', exists_eq_left, exists_and_left, exists_and_right, exists_const, exists_eq_right, exists_eq_right', Bool.not_true, Bool.not_false, if_true, if_false, Bool.false_eq_true, reduceCtorEq, false_and, and_false, decide_true, decide_false]
      refine dLoop_inv (fun j ρ G2 => G2 = G' ∧ ∃ m o7, ρ = [some (.tup (ts.map trD)), some (.int gap), some (.int span), some (.ref p), some (.int (0 + (k : Int))), some (.int f), some (.int m), o7] ∧ q0.1 ≤ m ∧ (∀ i, i < j → (rowOf ts span f i (B i)).1 ≤ m) ∧ (m = q0.1 ∨ ∃ i, i < j ∧ i < ts.length ∧ m = (rowOf ts span f i (B i)).1)) 0
        ⟨rfl, q0.1, _, rfl, Int.le_refl _, fun i hi => absurd hi (Nat.not_lt_zero i), .inl rfl⟩ (fun _ _ _ _ _ _ => trivial) (fun j dd ρ G2 hj hJ K2 hK2 => ?_) (fun ρ G2 hJ => ?_)
      · obtain ⟨rfl, m, o7, rfl, hm0, hmj, hmm⟩ := hJ
        rw [Nat.zero_add] at *
        rw [List.getElem?_map] at hj
        obtain ⟨t, ht, rfl⟩ := Option.map_eq_some_iff.mp hj
        have hjl := (List.getElem?_eq_some_iff.mp ht).1
        have et : tOf ts j = t := by
          unfold tOf
          rw [List.getD_eq_getElem?_getD, ht]
          rfl
        obtain ⟨hb, eb⟩ := hB j hjl
        rw [et] at hb eb
        simp only [dRet, dRetN, dSeq, dAsg, dDrop, dIfS, dNext, dBreak, dCont, dPar, dSetL, dSetD, dFor, dVar, dC, dOp, dAndV, dOrV, dNotV, dAnd, dOr, dNot, dIf, dTest, dChain, dNil, dCons, dTup, dLst, dLstM, dStar, dNeg, dCB, dCall, dCallK, dMthT, dMth0, dLc, dYes, dISeq, dIStr, dIEnum, dIZip, dIRng1, dIRng2, dSl, dPart, dNoPart, dRaise, dDisp1, dNewD, dRevL, dRevT, dSortSet, dSortSetL, dIRng3, dGet2, dIKeys, dNewT, dSetT, dLstRg, dPar3, dLamA, dLamB, gdName, gdTup, gdCons, gdNil, dstart, dwipe, dAug, rdInt, rdSub, rdLt, rdLe, rdGt, rdGe, rdFdiv, rdMod, rdPow, at0, at1, at2, i30, i31, i32, set0, set1, set2, MO.lst.injEq, gup_same, gup_gup, ad_ii, ad_ss, ad_tt, ad_ll, mu_ii, mu_li, mu_ti, ix_t, ix_l, ix_s, ix_r, ix_w, ln_t, ln_l, ln_s, ln_w, ln_r, sr_t, sr_l, sr_s, sr_r, sl_t, sl_l, sl_s, sl_r, sl_w, tu_t, tu_l, tu_r, li_t, li_l, li_r, lm_t, lm_l, mx2, mn2, ab1, in1, is2, rdIsB, rdNotB, rdIsN, rdNotN, TD.isNon, List.map_cons, List.map_nil, List.length_cons, List.length_nil, List.replicate_succ, List.replicate_zero, List.cons_append, List.nil_append, List.append_nil, Nat.zero_add, Nat.reduceAdd, Nat.reduceSub, Nat.sub_self, Nat.add_sub_cancel, List.getElem?_cons_zero, List.getElem?_cons_succ, List.getElem?_nil, List.set_cons_zero, List.set_cons_succ, List.set_nil, Option.some.injEq, D.int.injEq, D.bl.injEq, D.str.injEq, D.ref.injEq, D.ty.injEq, D.tup.injEq, D.lst.injEq, List.cons.injEq, and_true, true_and, ex_two, ex_two', exists_eq_left', exists_eq_left, exists_and_left, exists_and_right, exists_const, exists_eq_right, exists_eq_right', Bool.not_true, Bool.not_false, if_true, if_false, Bool.false_eq_true, reduceCtorEq, false_and, and_false, decide_true, decide_false]
        refine ⟨t, rfl, ?_⟩
        have etr : trD t = .tup [.int t.len, .tup (t.ax.map axD)] := rfl
        simp only [dRet, dRetN, dSeq, dAsg, dDrop, dIfS, dNext, dBreak, dCont, dPar, dSetL, dSetD, dFor, dVar, dC, dOp, dAndV, dOrV, dNotV, dAnd, dOr, dNot, dIf, dTest, dChain, dNil, dCons, dTup, dLst, dLstM, dStar, dNeg, dCB, dCall, dCallK, dMthT, dMth0, dLc, dYes, dISeq, dIStr, dIEnum, dIZip, dIRng1, dIRng2, dSl, dPart, dNoPart, dRaise, dDisp1, dNewD, dRevL, dRevT, dSortSet, dSortSetL, dIRng3, dGet2, dIKeys, dNewT, dSetT, dLstRg, dPar3, dLamA, dLamB, gdName, gdTup, gdCons, gdNil, dstart, dwipe, dAug, rdInt, rdSub, rdLt, rdLe, rdGt, rdGe, rdFdiv, rdMod, rdPow, at0, at1, at2, i30, i31, i32, set0, set1, set2, MO.lst.injEq, gup_same, gup_gup, ad_ii, ad_ss, ad_tt, ad_ll, mu_ii, mu_li, mu_ti, ix_t, ix_l, ix_s, ix_r, ix_w, ln_t, ln_l, ln_s, ln_w, ln_r, sr_t, sr_l, sr_s, sr_r, sl_t, sl_l, sl_s, sl_r, sl_w, tu_t, tu_l, tu_r, li_t, li_l, li_r, lm_t, lm_l, mx2, mn2, ab1, in1, is2, rdIsB, rdNotB, rdIsN, rdNotN, TD.isNon, List.map_cons, List.map_nil, List.length_cons, List.length_nil, List.replicate_succ, List.replicate_zero, List.cons_append, List.nil_append, List.append_nil, Nat.zero_add, Nat.reduceAdd, Nat.reduceSub, Nat.sub_self, Nat.add_sub_cancel, List.getElem?_cons_zero, List.getElem?_cons_succ, List.getElem?_nil, List.set_cons_zero, List.set_cons_succ, List.set_nil, Option.some.injEq, D.int.injEq, D.bl.injEq, D.str.injEq, D.ref.injEq, D.ty.injEq, D.tup.injEq, D.lst.injEq, List.cons.injEq, and_true, true_and, ex_two, ex_two', exists_eq_left', exists_eq_left, exists_and_left, exists_and_right, exists_const, exists_eq_right, exists_eq_right', Bool.not_true, Bool.not_false, if_true, if_false, Bool.false_eq_true, reduceCtorEq, false_and, and_false, decide_true, decide_false]
        refine ⟨⟨kvs, .inl gp⟩, ?_⟩
        rw [etr]
        simp only [dRet, dRetN, dSeq, dAsg, dDrop, dIfS, dNext, dBreak, dCont, dPar, dSetL, dSetD, dFor, dVar, dC, dOp, dAndV, dOrV, dNotV, dAnd, dOr, dNot, dIf, dTest, dChain, dNil, dCons, dTup, dLst, dLstM, dStar, dNeg, dCB, dCall, dCallK, dMthT, dMth0, dLc, dYes, dISeq, dIStr, dIEnum, dIZip, dIRng1, dIRng2, dSl, dPart, dNoPart, dRaise, dDisp1, dNewD, dRevL, dRevT, dSortSet, dSortSetL, dIRng3, dGet2, dIKeys, dNewT, dSetT, dLstRg, dPar3, dLamA, dLamB, gdName, gdTup, gdCons, gdNil, dstart, dwipe, dAug, rdInt, rdSub, rdLt, rdLe, rdGt, rdGe, rdFdiv, rdMod, rdPow, at0, at1, at2, i30, i31, i32, set0, set1, set2, MO.lst.injEq, gup_same, gup_gup, ad_ii, ad_ss, ad_tt, ad_ll, mu_ii, mu_li, mu_ti, ix_t, ix_l, ix_s, ix_r, ix_w, ln_t, ln_l, ln_s, ln_w, ln_r, sr_t, sr_l, sr_s, sr_r, sl_t, sl_l, sl_s, sl_r, sl_w, tu_t, tu_l, tu_r, li_t, li_l, li_r, lm_t, lm_l, mx2, mn2, ab1, in1, is2, rdIsB, rdNotB, rdIsN, rdNotN, TD.isNon, List.map_cons, List.map_nil, List.length_cons, List.length_nil, List.replicate_succ, List.replicate_zero, List.cons_append, List.nil_append, List.append_nil, Nat.zero_add, Nat.reduceAdd, Nat.reduceSub, Nat.sub_self, Nat.add_sub_cancel, List.getElem?_cons_zero, List.getElem?_cons_succ, List.getElem?_nil, List.set_cons_zero, List.set_cons_succ, List.set_nil, Option.some.injEq, D.int.injEq, D.bl.injEq, D.str.injEq, D.ref.injEq, D.ty.injEq, D.tup.injEq, D.lst.injEq, List.cons.injEq, and_true, true_and, ex_two, ex_two', exists_eq_left', exists_eq_left, exists_and_left, exists_and_right, exists_const, exists_eq_right, exists_eq_right', Bool.not_true, Bool.not_false, if_true, if_false, Bool.false_eq_true, reduceCtorEq, false_and, and_false, decide_true, decide_false]
        refine ⟨.inl (f + t.len + gap), rfl, kvs, .inl gp, ?_⟩
        rw [eb]
        simp only [dRet, dRetN, dSeq, dAsg, dDrop, dIfS, dNext, dBreak, dCont, dPar, dSetL, dSetD, dFor, dVar, dC, dOp, dAndV, dOrV, dNotV, dAnd, dOr, dNot, dIf, dTest, dChain, dNil, dCons, dTup, dLst, dLstM, dStar, dNeg, dCB, dCall, dCallK, dMthT, dMth0, dLc, dYes, dISeq, dIStr, dIEnum, dIZip, dIRng1, dIRng2, dSl, dPart, dNoPart, dRaise, dDisp1, dNewD, dRevL, dRevT, dSortSet, dSortSetL, dIRng3, dGet2, dIKeys, dNewT, dSetT, dLstRg, dPar3, dLamA, dLamB, gdName, gdTup, gdCons, gdNil, dstart, dwipe, dAug, rdInt, rdSub, rdLt, rdLe, rdGt, rdGe, rdFdiv, rdMod, rdPow, at0, at1, at2, i30, i31, i32, set0, set1, set2, MO.lst.injEq, gup_same, gup_gup, ad_ii, ad_ss, ad_tt, ad_ll, mu_ii, mu_li, mu_ti, ix_t, ix_l, ix_s, ix_r, ix_w, ln_t, ln_l, ln_s, ln_w, ln_r, sr_t, sr_l, sr_s, sr_r, sl_t, sl_l, sl_s, sl_r, sl_w, tu_t, tu_l, tu_r, li_t, li_l, li_r, lm_t, lm_l, mx2, mn2, ab1, in1, is2, rdIsB, rdNotB, rdIsN, rdNotN, TD.isNon, List.map_cons, List.map_nil, List.length_cons, List.length_nil, List.replicate_succ, List.replicate_zero, List.cons_append, List.nil_append, List.append_nil, Nat.zero_add, Nat.reduceAdd, Nat.reduceSub, Nat.sub_self, Nat.add_sub_cancel, List.getElem?_cons_zero, List.getElem?_cons_succ, List.getElem?_nil, List.set_cons_zero, List.set_cons_succ, List.set_nil, Option.some.injEq, D.int.injEq, D.bl.injEq, D.str.injEq, D.ref.injEq, D.ty.injEq, D.tup.injEq, D.lst.injEq, List.cons.injEq, and_true, true_and, ex_two, ex_two', exists_eq_left', exists_eq_left, exists_and_left, exists_and_right, exists_const, exists_eq_right, exists_eq_right', Bool.not_true, Bool.not_false, if_true, if_false, Bool.false_eq_true, reduceCtorEq, false_and, and_false, decide_true, decide_false]
        have er : (rowOf ts span f j (B j)).1 = (B j).1 + onW t span f := by unfold rowOf; rw [et]
        refine hK2 _ _ ⟨rfl, _, _, rfl, ?_, fun i hi => ?_, ?_⟩
        · split <;> omega
        · by_cases hij : i = j
          · subst hij; rw [er]; split <;> omega
          · have := hmj i (by omega)
            split <;> omega
        · split
          · exact .inr ⟨j, by omega, hjl, by rw [er]; omega⟩
          · rcases hmm with e | ⟨i, h1, h2, e⟩
            · exact .inl e
            · exact .inr ⟨i, by omega, h2, e⟩
      · obtain ⟨rfl, m, o7, rfl, hm0, hmj, hmm⟩ := hJ
        rw [List.length_map, Nat.zero_add] at hmj hmm
        simp only [dRet, dRetN, dSeq, dAsg, dDrop, dIfS, dNext, dBreak, dCont, dPar, dSetL, dSetD, dFor, dVar, dC, dOp, dAndV, dOrV, dNotV, dAnd, dOr, dNot, dIf, dTest, dChain, dNil, dCons, dTup, dLst, dLstM, dStar, dNeg, dCB, dCall, dCallK, dMthT, dMth0, dLc, dYes, dISeq, dIStr, dIEnum, dIZip, dIRng1, dIRng2, dSl, dPart, dNoPart, dRaise, dDisp1, dNewD, dRevL, dRevT, dSortSet, dSortSetL, dIRng3, dGet2, dIKeys, dNewT, dSetT, dLstRg, dPar3, dLamA, dLamB, gdName, gdTup, gdCons, gdNil, dstart, dwipe, dAug, rdInt, rdSub, rdLt, rdLe, rdGt, rdGe, rdFdiv, rdMod, rdPow, at0, at1, at2, i30, i31, i32, set0, set1, set2, MO.lst.injEq, gup_same, gup_gup, ad_ii, ad_ss, ad_tt, ad_ll, mu_ii, mu_li, mu_ti, ix_t, ix_l, ix_s, ix_r, ix_w, ln_t, ln_l, ln_s, ln_w, ln_r, sr_t, sr_l, sr_s, sr_r, sl_t, sl_l, sl_s, sl_r, sl_w, tu_t, tu_l, tu_r, li_t, li_l, li_r, lm_t, lm_l, mx2, mn2, ab1, in1, is2, rdIsB, rdNotB, rdIsN, rdNotN, TD.isNon, List.map_cons, List.map_nil, List.length_cons, List.length_nil, List.replicate_succ, List.replicate_zero, List.cons_append, List.nil_append, List.append_nil, Nat.zero_add, Nat.reduceAdd, Nat.reduceSub, Nat.sub_self, Nat.add_sub_cancel, List.getElem?_cons_zero, List.getElem?_cons_succ, List.getElem?_nil, List.set_cons_zero, List.set_cons_succ, List.set_nil, Option.some.injEq, D.int.injEq, D.bl.injEq, D.str.injEq, D.ref.injEq, D.ty.injEq, D.tup.injEq, D.lst.injEq, List.cons.injEq, and_true, true_and, ex_two, ex_two', exists_eq_left', exists_eq_left, exists_and_left, exists_and_right, exists_const, exists_eq_right, exists_eq_right', Bool.not_true, Bool.not_false, if_true, if_false, Bool.false_eq_true, reduceCtorEq, false_and, and_false, decide_true, decide_false]
        obtain ⟨mm, em, Bm⟩ : ∃ mm : Int × Convoy, mm.1 = m ∧ Best ts gap span f mm := by
          rcases hmm with e | ⟨i, h1, h2, e⟩
          · exact ⟨q0, e.symm, best_step (B := B) w g1 (by omega) hq0 (fun i hi => (hB i hi).1) (.inl rfl) (Int.le_refl _) fun i hi => by have := hmj i hi; omega⟩
          · exact ⟨_, e.symm, best_step (B := B) w g1 (by omega) hq0 (fun i hi => (hB i hi).1) (.inr ⟨i, h2, rfl⟩) (by omega) fun i' hi => by have := hmj i' hi; omega⟩
        refine ⟨kvs, .inl f, rfl, gp, Nat.lt_of_lt_of_le (show kvs.length < 1000 by omega) (sz _ (by omega)), ?_⟩
        refine hK _ _ ⟨_, _, _, _, putD kvs (.inl f) (.int m), rfl, gup_same, ?_, fun c mo hc => ?_, ⟨fun g h1 h2 => ?_, fun g hg => ?_, fun kk hkk => ?_⟩⟩
        · have := length_putD kvs (.inl f) (.int m)
          omega
        · rw [gup_ne (fun z => by rw [z, hp] at hc; cases hc)]
          exact keep c mo hc
        · by_cases e : g = f
          · rw [e]; exact ⟨mm, Bm, by rw [em]; exact valD_put_same⟩
          · rw [valD_put_ne (fun z => e (by injection z))]; exact HV.at_ g (by omega) h2
        · have e : g ≠ f := by omega
          rw [valD_put_ne (fun z => e (by injection z))]
          exact HV.far g hg
        · rcases mem_putD.mp hkk with h | h
          · obtain ⟨g, e, h1, h2⟩ := HV.keys kk h
            exact ⟨g, e, by omega, h2⟩
          · exact ⟨f, h, by omega, by omega⟩
    · obtain ⟨o4, o5, o6, o7, kvs, rfl, gp, hk, keep, HV⟩ := hI
      rw [rngD_len] at hk HV
      have HV' : HoldV ts gap span (-30) kvs := by rw [show span + 1 - ((0 + (span + 31).toNat : Nat) : Int) = -30 by omega] at HV; exact HV
      simp only [dRet, dRetN, dSeq, dAsg, dDrop, dIfS, dNext, dBreak, dCont, dPar, dSetL, dSetD, dFor, dVar, dC, dOp, dAndV, dOrV, dNotV, dAnd, dOr, dNot, dIf, dTest, dChain, dNil, dCons, dTup, dLst, dLstM, dStar, dNeg, dCB, dCall, dCallK, dMthT, dMth0, dLc, dYes, dISeq, dIStr, dIEnum, dIZip, dIRng1, dIRng2, dSl, dPart, dNoPart, dRaise, dDisp1, dNewD, dRevL, dRevT, dSortSet, dSortSetL, dIRng3, dGet2, dIKeys, dNewT, dSetT, dLstRg, dPar3, dLamA, dLamB, gdName, gdTup, gdCons, gdNil, dstart, dwipe, dAug, rdInt, rdSub, rdLt, rdLe, rdGt, rdGe, rdFdiv, rdMod, rdPow, at0, at1, at2, i30, i31, i32, set0, set1, set2, MO.lst.injEq, gup_same, gup_gup, ad_ii, ad_ss, ad_tt, ad_ll, mu_ii, mu_li, mu_ti, ix_t, ix_l, ix_s, ix_r, ix_w, ln_t, ln_l, ln_s, ln_w, ln_r, sr_t, sr_l, sr_s, sr_r, sl_t, sl_l, sl_s, sl_r, sl_w, tu_t, tu_l, tu_r, li_t, li_l, li_r, lm_t, lm_l, mx2, mn2, ab1, in1, is2, rdIsB, rdNotB, rdIsN, rdNotN, TD.isNon, List.map_cons, List.map_nil, List.length_cons, List.length_nil, List.replicate_succ, List.replicate_zero, List.cons_append, List.nil_append, List.append_nil, Nat.zero_add, Nat.reduceAdd, Nat.reduceSub, Nat.sub_self, Nat.add_sub_cancel, List.getElem?_cons_zero, List.getElem?_cons_succ, List.getElem?_nil, List.set_cons_zero, List.set_cons_succ, List.set_nil, Option.some.injEq, D.int.injEq, D.bl.injEq, D.str.injEq, D.ref.injEq, D.ty.injEq, D.tup.injEq, D.lst.injEq, List.cons.injEq, and_true, true_and, ex_two, ex_two', exists_eq_left', exists_eq_left, exists_and_left, exists_and_right, exists_const, exists_eq_right, exists_eq_right', Bool.not_true, Bool.not_false, if_true, if_false, Bool.false_eq_true, reduceCtorEq, false_and, and_false, decide_true, decide_false]
      refine ⟨kvs, sz _ (by omega), .inl ⟨gp, fun o ks => ?_⟩⟩
      have key : ∀ kk ∈ kvs.map (·.1), ∃ (f : Int) (q : Int × Convoy), kk = .inl f ∧ Best ts gap span f q ∧ -30 ≤ f ∧ valD kvs kk = some (.int q.1) := fun kk hkk => by
        obtain ⟨f, e, h1, h2⟩ := HV'.keys kk hkk
        obtain ⟨q, a, b⟩ := HV'.at_ f h1 h2
        exact ⟨f, q, e, a, h1, by rw [e]; exact b⟩
      refine dComp_map (fun d => match d with | .int g => (valD kvs (.inl g)).getD (.int 0) | _ => .non) gup_same (fun d hd K1 k1 => ?_) ?_
      · obtain ⟨kv, hkv, rfl⟩ := List.mem_map.mp hd
        obtain ⟨f, q1, e, hq1, hf, hv⟩ := key kv.1 (List.mem_map_of_mem hkv)
        rw [e] at k1 hv ⊢
        have k2 : K1 ((valD kvs (.inl f)).getD (.int 0)) (gup G' p (.fK o ks kvs)) := k1
        rw [hv] at k2
        have ek : kD (.inl f) = .int f := rfl
        rw [ek]
        simp only [dRet, dRetN, dSeq, dAsg, dDrop, dIfS, dNext, dBreak, dCont, dPar, dSetL, dSetD, dFor, dVar, dC, dOp, dAndV, dOrV, dNotV, dAnd, dOr, dNot, dIf, dTest, dChain, dNil, dCons, dTup, dLst, dLstM, dStar, dNeg, dCB, dCall, dCallK, dMthT, dMth0, dLc, dYes, dISeq, dIStr, dIEnum, dIZip, dIRng1, dIRng2, dSl, dPart, dNoPart, dRaise, dDisp1, dNewD, dRevL, dRevT, dSortSet, dSortSetL, dIRng3, dGet2, dIKeys, dNewT, dSetT, dLstRg, dPar3, dLamA, dLamB, gdName, gdTup, gdCons, gdNil, dstart, dwipe, dAug, rdInt, rdSub, rdLt, rdLe, rdGt, rdGe, rdFdiv, rdMod, rdPow, at0, at1, at2, i30, i31, i32, set0, set1, set2, MO.lst.injEq, gup_same, gup_gup, ad_ii, ad_ss, ad_tt, ad_ll, mu_ii, mu_li, mu_ti, ix_t, ix_l, ix_s, ix_r, ix_w, ln_t, ln_l, ln_s, ln_w, ln_r, sr_t, sr_l, sr_s, sr_r, sl_t, sl_l, sl_s, sl_r, sl_w, tu_t, tu_l, tu_r, li_t, li_l, li_r, lm_t, lm_l, mx2, mn2, ab1, in1, is2, rdIsB, rdNotB, rdIsN, rdNotN, TD.isNon, List.map_cons, List.map_nil, List.length_cons, List.length_nil, List.replicate_succ, List.replicate_zero, List.cons_append, List.nil_append, List.append_nil, Nat.zero_add, Nat.reduceAdd, Nat.reduceSub, Nat.sub_self, Nat.add_sub_cancel, List.getElem?_cons_zero, List.getElem?_cons_succ, List.getElem?_nil, List.set_cons_zero, List.set_cons_succ, List.set_nil, Option.some.injEq, D.int.injEq, D.bl.injEq, D.str.injEq, D.ref.injEq, D.ty.injEq, D.tup.injEq, D.lst.injEq, List.cons.injEq, and_true, true_and, ex_two, ex_two', exists_eq_left', exists_eq_left, exists_and_left, exists_and_right, exists_const, exists_eq_right, exists_eq_right', Bool.not_true, Bool.not_false, if_true, if_false, Bool.false_eq_true, reduceCtorEq, false_and, and_false, decide_true, decide_false]
        exact dixA (.inr ⟨o, ks, gup_same⟩) hv k2
      · obtain ⟨q30, hq30, hv30⟩ := HV'.at_ (-30) (Int.le_refl _) (by omega)
        let val : Key → Int := fun kk => match valD kvs kk with | some (.int i) => i | _ => 0
        have hval : ∀ kk ∈ kvs.map (·.1), ∃ (f : Int) (q : Int × Convoy), Best ts gap span f q ∧ -30 ≤ f ∧ val kk = q.1 ∧ (match kD kk with | .int g => (valD kvs (.inl g)).getD (.int 0) | _ => .non) = .int (val kk) := fun kk hkk => by
          obtain ⟨f, q1, e, a, b, c⟩ := key kk hkk
          subst e
          have e2 : val (.inl f) = q1.1 := by show (match valD kvs (.inl f) with | some (.int i) => i | _ => 0) = _; rw [c]
          refine ⟨f, q1, a, b, e2, ?_⟩
          rw [e2]
          show (valD kvs (.inl f)).getD (.int 0) = _
          rw [c]; rfl
        have em : (kvs.map fun kv => kD kv.1).map (fun d => match d with | .int g => (valD kvs (.inl g)).getD (.int 0) | _ => .non) = ((kvs.map (·.1)).map val).map D.int := by
          rw [List.map_map, List.map_map, List.map_map]
          refine List.map_congr_left fun kv hkv => ?_
          obtain ⟨_, _, _, _, _, e⟩ := hval kv.1 (List.mem_map_of_mem hkv)
          exact e
        rw [List.nil_append, em]
        have mem30 : (.inl (-30) : Key) ∈ kvs.map (·.1) := by
          unfold valD at hv30
          cases hf : kvs.find? fun kv => decide (kv.1 = (.inl (-30) : Key)) with
          | none => rw [hf] at hv30; cases hv30
          | some kv =>
            have h1 := List.mem_of_find?_eq_some hf
            have h2 := List.find?_some hf
            have h3 : kv.1 = .inl (-30) := of_decide_eq_true h2
            rw [← h3]
            exact List.mem_map_of_mem h1
        refine ⟨_, (kvs.map (·.1)).map val, rfl, dInts_map _, ?_, fun m hm hl => ?_⟩
        · exact List.length_pos_of_mem (List.mem_map_of_mem mem30)
        · obtain ⟨kk, hkk, rfl⟩ := List.mem_map.mp hm
          obtain ⟨f, q1, a, b, c, _⟩ := hval kk hkk
          have h1 := hl _ (List.mem_map_of_mem mem30)
          obtain ⟨f3, q3, a3, b3, c3, _⟩ := hval _ mem30
          have h2 := hq30.anti a b
          have e30 : val (.inl (-30)) = q30.1 := by show (match valD kvs (.inl (-30)) with | some (.int i) => i | _ => 0) = _; rw [hv30]
          have e : val kk = q30.1 := by omega
          rw [e]
          refine q q30 _ hq30 fun b mo hb => ?_
          rw [gup_ne (fun z => by rw [z, hp] at hb; cases hb)]
          exact keep b mo hb
  · exact h.elim
end K06
namespace K06
open PySem L2 TD
def nonI (d : D) : Bool := match d with | .int _ => false | _ => true
theorem nonI_int {d : D} (h : nonI d = false) : ∃ i : Int, d = .int i := by
  cases d <;> first | exact ⟨_, rfl⟩ | (cases h)
def sp__law_fronts_right (A : Ad) : SpD := fun zs G Q _ => match zs with
  | [.tup ts, v] => Pur v ∧ Q (.bl (frB ts.length v)) G
  | _ => False
theorem len__law_fronts_right {A : Ad} {zs : List D} {G : GH} {Q : DK} {x : XD} (h : sp__law_fronts_right A zs G Q x) : zs.length = 2 := by
  unfold sp__law_fronts_right at h
  split at h <;> first | rfl | exact h.elim
def ds__law_fronts_right (A : Ad) : DS := dSeq (dIfS (dOr (dNot (dTest (dCB rdIsi (dCons (dVar 1) (dCons (dC (.ty "tuple")) dNil))))) (dTest (dOp rdGt (dCB rdLen (dCons (dVar 1) dNil)) (dC (.int 200))))) (dRet (dC (.bl false))) dNext) (dSeq (dFor (dISeq (dVar 1)) (gdName 2) (dSeq (dIfS (dOr (dNot (dTest (dCB rdIsi (dCons (dVar 2) (dCons (dC (.ty "tuple")) dNil))))) (dOr (dTest (dOp rdNe (dCB rdLen (dCons (dVar 2) dNil)) (dC (.int 2)))) (dTest (dOp rdNe (dLc (dISeq (dVar 2)) (gdName 3) (dOr (dNot (dTest (dCB rdIsi (dCons (dVar 3) (dCons (dC (.ty "int")) dNil))))) (dTest (dCB rdIsi (dCons (dVar 3) (dCons (dC (.ty "bool")) dNil))))) (dC (.int 1)) [3]) (dLst dNil))))) (dRet (dC (.bl false))) dNext) (dIfS (dOr (dNot (dTest (dChain rdLe rdLt (dC (.int 0)) (dOp rdIx (dVar 2) (dC (.int 0))) (dCB rdLen (dCons (dVar 0) dNil))))) (dNot (dTest (dChain rdLe rdLe (dNeg (dC (.int 100))) (dOp rdIx (dVar 2) (dC (.int 1))) (dC (.int 200)))))) (dRet (dC (.bl false))) dNext))) (dRet (dC (.bl true))))
def N__law_fronts_right : List PySem.Str := ["trucks", "value", "one", "part"]
theorem read__law_fronts_right {A : Ad} {zs : List D} {G : GH} {Q : DK} {x : XD} (h : sp__law_fronts_right A zs G Q x) : ds__law_fronts_right A { nx := fun _ G' => Q .non G', rt := Q, xx := fun _ => x } (dstart N__law_fronts_right zs) G := by
  unfold sp__law_fronts_right at h
  split at h
  · rename_i ts v
    obtain ⟨hp, q⟩ := h
    unfold N__law_fronts_right ds__law_fronts_right
    simp only [dRet, dRetN, dSeq, dAsg, dDrop, dIfS, dNext, dBreak, dCont, dPar, dSetL, dSetD, dFor, dVar, dC, dOp, dAndV, dOrV, dNotV, dAnd, dOr, dNot, dIf, dTest, dChain, dNil, dCons, dTup, dLst, dLstM, dStar, dNeg, dCB, dCall, dCallK, dMthT, dMth0, dLc, dYes, dISeq, dIStr, dIEnum, dIZip, dIRng1, dIRng2, dSl, dPart, dNoPart, dRaise, dDisp1, dNewD, dRevL, dRevT, dSortSet, dSortSetL, dIRng3, dGet2, dIKeys, dNewT, dSetT, dLstRg, dPar3, dLamA, dLamB, gdName, gdTup, gdCons, gdNil, dstart, dwipe, dAug, rdInt, rdSub, rdLt, rdLe, rdGt, rdGe, rdFdiv, rdMod, rdPow, at0, at1, at2, i30, i31, i32, set0, set1, set2, MO.lst.injEq, gup_same, gup_gup, ad_ii, ad_ss, ad_tt, ad_ll, mu_ii, mu_li, mu_ti, ix_t, ix_l, ix_s, ix_r, ix_w, ln_t, ln_l, ln_s, ln_w, ln_r, sr_t, sr_l, sr_s, sr_r, sl_t, sl_l, sl_s, sl_r, sl_w, tu_t, tu_l, tu_r, li_t, li_l, li_r, lm_t, lm_l, mx2, mn2, ab1, in1, is2, rdIsB, rdNotB, rdIsN, rdNotN, TD.isNon, List.map_cons, List.map_nil, List.length_cons, List.length_nil, List.replicate_succ, List.replicate_zero, List.cons_append, List.nil_append, List.append_nil, Nat.zero_add, Nat.reduceAdd, Nat.reduceSub, Nat.sub_self, Nat.add_sub_cancel, List.getElem?_cons_zero, List.getElem?_cons_succ, List.getElem?_nil, List.set_cons_zero, List.set_cons_succ, List.set_nil, Option.some.injEq, D.int.injEq, D.bl.injEq, D.str.injEq, D.ref.injEq, D.ty.injEq, D.tup.injEq, D.lst.injEq, List.cons.injEq, and_true, true_and, ex_two, ex_two', exists_eq_left', exists_eq_left, exists_and_left, exists_and_right, exists_const, exists_eq_right, exists_eq_right', Bool.not_true, Bool.not_false, if_true, if_false, Bool.false_eq_true, reduceCtorEq, false_and, and_false, decide_true, decide_false, tyD_pur hp, m_tuple]
    cases v with
    | tup xs =>
      simp only [isi_tup, dRet, dRetN, dSeq, dAsg, dDrop, dIfS, dNext, dBreak, dCont, dPar, dSetL, dSetD, dFor, dVar, dC, dOp, dAndV, dOrV, dNotV, dAnd, dOr, dNot, dIf, dTest, dChain, dNil, dCons, dTup, dLst, dLstM, dStar, dNeg, dCB, dCall, dCallK, dMthT, dMth0, dLc, dYes, dISeq, dIStr, dIEnum, dIZip, dIRng1, dIRng2, dSl, dPart, dNoPart, dRaise, dDisp1, dNewD, dRevL, dRevT, dSortSet, dSortSetL, dIRng3, dGet2, dIKeys, dNewT, dSetT, dLstRg, dPar3, dLamA, dLamB, gdName, gdTup, gdCons, gdNil, dstart, dwipe, dAug, rdInt, rdSub, rdLt, rdLe, rdGt, rdGe, rdFdiv, rdMod, rdPow, at0, at1, at2, i30, i31, i32, set0, set1, set2, MO.lst.injEq, gup_same, gup_gup, ad_ii, ad_ss, ad_tt, ad_ll, mu_ii, mu_li, mu_ti, ix_t, ix_l, ix_s, ix_r, ix_w, ln_t, ln_l, ln_s, ln_w, ln_r, sr_t, sr_l, sr_s, sr_r, sl_t, sl_l, sl_s, sl_r, sl_w, tu_t, tu_l, tu_r, li_t, li_l, li_r, lm_t, lm_l, mx2, mn2, ab1, in1, is2, rdIsB, rdNotB, rdIsN, rdNotN, TD.isNon, List.map_cons, List.map_nil, List.length_cons, List.length_nil, List.replicate_succ, List.replicate_zero, List.cons_append, List.nil_append, List.append_nil, Nat.zero_add, Nat.reduceAdd, Nat.reduceSub, Nat.sub_self, Nat.add_sub_cancel, List.getElem?_cons_zero, List.getElem?_cons_succ, List.getElem?_nil, List.set_cons_zero, List.set_cons_succ, List.set_nil, Option.some.injEq, D.int.injEq, D.bl.injEq, D.str.injEq, D.ref.injEq, D.ty.injEq, D.tup.injEq, D.lst.injEq, List.cons.injEq, and_true, true_and, ex_two, ex_two', exists_eq_left', exists_eq_left, exists_and_left, exists_and_right, exists_const, exists_eq_right, exists_eq_right', Bool.not_true, Bool.not_false, if_true, if_false, Bool.false_eq_true, reduceCtorEq, false_and, and_false, decide_true, decide_false]
      simp only [frB] at q
      by_cases c1 : (xs.length : Int) > 200
      · simp only [c1, decide_true, if_true]
        have : ¬ xs.length ≤ 200 := by omega
        simpa [this] using q
      · have c2 : xs.length ≤ 200 := by omega
        simp only [c1, decide_false, Bool.false_eq_true, if_false]
        simp only [c2, decide_true, Bool.true_and] at q
        refine dLoop_inv (fun k ρ G' => G' = G ∧ ∃ o2, ρ = [some (.tup ts), some (.tup xs), o2, none] ∧ (xs.take k).all (plB ts.length) = true) 0 ⟨rfl, none, rfl, rfl⟩ (fun _ _ _ _ _ _ => trivial) (fun k d ρ G' hk hI K1 hK => ?_) (fun ρ G' hI => ?_)
        · obtain ⟨rfl, o2, rfl, hall⟩ := hI
          rw [Nat.zero_add] at *
          have hm := List.mem_of_getElem? hk
          have hpd := pur_tup hp d hm
          have no : plB ts.length d = false → Q (.bl false) G' := fun e => by
            have : xs.all (plB ts.length) = false := by rw [List.all_eq_false]; exact ⟨d, hm, by rw [e]; exact Bool.false_ne_true⟩
            rw [this] at q
            exact q
          simp only [dRet, dRetN, dSeq, dAsg, dDrop, dIfS, dNext, dBreak, dCont, dPar, dSetL, dSetD, dFor, dVar, dC, dOp, dAndV, dOrV, dNotV, dAnd, dOr, dNot, dIf, dTest, dChain, dNil, dCons, dTup, dLst, dLstM, dStar, dNeg, dCB, dCall, dCallK, dMthT, dMth0, dLc, dYes, dISeq, dIStr, dIEnum, dIZip, dIRng1, dIRng2, dSl, dPart, dNoPart, dRaise, dDisp1, dNewD, dRevL, dRevT, dSortSet, dSortSetL, dIRng3, dGet2, dIKeys, dNewT, dSetT, dLstRg, dPar3, dLamA, dLamB, gdName, gdTup, gdCons, gdNil, dstart, dwipe, dAug, rdInt, rdSub, rdLt, rdLe, rdGt, rdGe, rdFdiv, rdMod, rdPow, at0, at1, at2, i30, i31, i32, set0, set1, set2, MO.lst.injEq, gup_same, gup_gup, ad_ii, ad_ss, ad_tt, ad_ll, mu_ii, mu_li, mu_ti, ix_t, ix_l, ix_s, ix_r, ix_w, ln_t, ln_l, ln_s, ln_w, ln_r, sr_t, sr_l, sr_s, sr_r, sl_t, sl_l, sl_s, sl_r, sl_w, tu_t, tu_l, tu_r, li_t, li_l, li_r, lm_t, lm_l, mx2, mn2, ab1, in1, is2, rdIsB, rdNotB, rdIsN, rdNotN, TD.isNon, List.map_cons, List.map_nil, List.length_cons, List.length_nil, List.replicate_succ, List.replicate_zero, List.cons_append, List.nil_append, List.append_nil, Nat.zero_add, Nat.reduceAdd, Nat.reduceSub, Nat.sub_self, Nat.add_sub_cancel, List.getElem?_cons_zero, List.getElem?_cons_succ, List.getElem?_nil, List.set_cons_zero, List.set_cons_succ, List.set_nil, Option.some.injEq, D.int.injEq, D.bl.injEq, D.str.injEq, D.ref.injEq, D.ty.injEq, D.tup.injEq, D.lst.injEq, List.cons.injEq, and_true, true_and, ex_two, ex_two', exists_eq_left', exists_eq_left, exists_and_left, exists_and_right, exists_const, exists_eq_right, exists_eq_right', Bool.not_true, Bool.not_false, if_true, if_false, Bool.false_eq_true, reduceCtorEq, false_and, and_false, decide_true, decide_false, tyD_pur hpd, m_tuple]
          by_cases ht : ∃ ys, d = .tup ys
          · obtain ⟨ys, rfl⟩ := ht
            simp only [isi_tup, dRet, dRetN, dSeq, dAsg, dDrop, dIfS, dNext, dBreak, dCont, dPar, dSetL, dSetD, dFor, dVar, dC, dOp, dAndV, dOrV, dNotV, dAnd, dOr, dNot, dIf, dTest, dChain, dNil, dCons, dTup, dLst, dLstM, dStar, dNeg, dCB, dCall, dCallK, dMthT, dMth0, dLc, dYes, dISeq, dIStr, dIEnum, dIZip, dIRng1, dIRng2, dSl, dPart, dNoPart, dRaise, dDisp1, dNewD, dRevL, dRevT, dSortSet, dSortSetL, dIRng3, dGet2, dIKeys, dNewT, dSetT, dLstRg, dPar3, dLamA, dLamB, gdName, gdTup, gdCons, gdNil, dstart, dwipe, dAug, rdInt, rdSub, rdLt, rdLe, rdGt, rdGe, rdFdiv, rdMod, rdPow, at0, at1, at2, i30, i31, i32, set0, set1, set2, MO.lst.injEq, gup_same, gup_gup, ad_ii, ad_ss, ad_tt, ad_ll, mu_ii, mu_li, mu_ti, ix_t, ix_l, ix_s, ix_r, ix_w, ln_t, ln_l, ln_s, ln_w, ln_r, sr_t, sr_l, sr_s, sr_r, sl_t, sl_l, sl_s, sl_r, sl_w, tu_t, tu_l, tu_r, li_t, li_l, li_r, lm_t, lm_l, mx2, mn2, ab1, in1, is2, rdIsB, rdNotB, rdIsN, rdNotN, TD.isNon, List.map_cons, List.map_nil, List.length_cons, List.length_nil, List.replicate_succ, List.replicate_zero, List.cons_append, List.nil_append, List.append_nil, Nat.zero_add, Nat.reduceAdd, Nat.reduceSub, Nat.sub_self, Nat.add_sub_cancel, List.getElem?_cons_zero, List.getElem?_cons_succ, List.getElem?_nil, List.set_cons_zero, List.set_cons_succ, List.set_nil, Option.some.injEq, D.int.injEq, D.bl.injEq, D.str.injEq, D.ref.injEq, D.ty.injEq, D.tup.injEq, D.lst.injEq, List.cons.injEq, and_true, true_and, ex_two, ex_two', exists_eq_left', exists_eq_left, exists_and_left, exists_and_right, exists_const, exists_eq_right, exists_eq_right', Bool.not_true, Bool.not_false, if_true, if_false, Bool.false_eq_true, reduceCtorEq, false_and, and_false, decide_true, decide_false]
            refine ne_pur (pur_int _) (pur_int _) ?_
            rw [deq_in]
            refine ⟨_, rfl, ?_⟩
            by_cases c : ((ys.length : Nat) : Int) = 2
            · obtain ⟨a, b, rfl⟩ := two_of c
              simp only [c, decide_true, Bool.not_true, Bool.false_eq_true, if_false, dRet, dRetN, dSeq, dAsg, dDrop, dIfS, dNext, dBreak, dCont, dPar, dSetL, dSetD, dFor, dVar, dC, dOp, dAndV, dOrV, dNotV, dAnd, dOr, dNot, dIf, dTest, dChain, dNil, dCons, dTup, dLst, dLstM, dStar, dNeg, dCB, dCall, dCallK, dMthT, dMth0, dLc, dYes, dISeq, dIStr, dIEnum, dIZip, dIRng1, dIRng2, dSl, dPart, dNoPart, dRaise, dDisp1, dNewD, dRevL, dRevT, dSortSet, dSortSetL, dIRng3, dGet2, dIKeys, dNewT, dSetT, dLstRg, dPar3, dLamA, dLamB, gdName, gdTup, gdCons, gdNil, dstart, dwipe, dAug, rdInt, rdSub, rdLt, rdLe, rdGt, rdGe, rdFdiv, rdMod, rdPow, at0, at1, at2, i30, i31, i32, set0, set1, set2, MO.lst.injEq, gup_same, gup_gup, ad_ii, ad_ss, ad_tt, ad_ll, mu_ii, mu_li, mu_ti, ix_t, ix_l, ix_s, ix_r, ix_w, ln_t, ln_l, ln_s, ln_w, ln_r, sr_t, sr_l, sr_s, sr_r, sl_t, sl_l, sl_s, sl_r, sl_w, tu_t, tu_l, tu_r, li_t, li_l, li_r, lm_t, lm_l, mx2, mn2, ab1, in1, is2, rdIsB, rdNotB, rdIsN, rdNotN, TD.isNon, List.map_cons, List.map_nil, List.length_cons, List.length_nil, List.replicate_succ, List.replicate_zero, List.cons_append, List.nil_append, List.append_nil, Nat.zero_add, Nat.reduceAdd, Nat.reduceSub, Nat.sub_self, Nat.add_sub_cancel, List.getElem?_cons_zero, List.getElem?_cons_succ, List.getElem?_nil, List.set_cons_zero, List.set_cons_succ, List.set_nil, Option.some.injEq, D.int.injEq, D.bl.injEq, D.str.injEq, D.ref.injEq, D.ty.injEq, D.tup.injEq, D.lst.injEq, List.cons.injEq, and_true, true_and, ex_two, ex_two', exists_eq_left', exists_eq_left, exists_and_left, exists_and_right, exists_const, exists_eq_right, exists_eq_right', Bool.not_true, Bool.not_false, if_true, if_false, Bool.false_eq_true, reduceCtorEq, false_and, and_false, decide_true, decide_false]
              refine dComp_filter nonI (fun _ => .int 1) trivial (fun e he K2 k2 => ?_) ?_
              · have hpe := pur_tup hpd e he
                simp only [dRet, dRetN, dSeq, dAsg, dDrop, dIfS, dNext, dBreak, dCont, dPar, dSetL, dSetD, dFor, dVar, dC, dOp, dAndV, dOrV, dNotV, dAnd, dOr, dNot, dIf, dTest, dChain, dNil, dCons, dTup, dLst, dLstM, dStar, dNeg, dCB, dCall, dCallK, dMthT, dMth0, dLc, dYes, dISeq, dIStr, dIEnum, dIZip, dIRng1, dIRng2, dSl, dPart, dNoPart, dRaise, dDisp1, dNewD, dRevL, dRevT, dSortSet, dSortSetL, dIRng3, dGet2, dIKeys, dNewT, dSetT, dLstRg, dPar3, dLamA, dLamB, gdName, gdTup, gdCons, gdNil, dstart, dwipe, dAug, rdInt, rdSub, rdLt, rdLe, rdGt, rdGe, rdFdiv, rdMod, rdPow, at0, at1, at2, i30, i31, i32, set0, set1, set2, MO.lst.injEq, gup_same, gup_gup, ad_ii, ad_ss, ad_tt, ad_ll, mu_ii, mu_li, mu_ti, ix_t, ix_l, ix_s, ix_r, ix_w, ln_t, ln_l, ln_s, ln_w, ln_r, sr_t, sr_l, sr_s, sr_r, sl_t, sl_l, sl_s, sl_r, sl_w, tu_t, tu_l, tu_r, li_t, li_l, li_r, lm_t, lm_l, mx2, mn2, ab1, in1, is2, rdIsB, rdNotB, rdIsN, rdNotN, TD.isNon, List.map_cons, List.map_nil, List.length_cons, List.length_nil, List.replicate_succ, List.replicate_zero, List.cons_append, List.nil_append, List.append_nil, Nat.zero_add, Nat.reduceAdd, Nat.reduceSub, Nat.sub_self, Nat.add_sub_cancel, List.getElem?_cons_zero, List.getElem?_cons_succ, List.getElem?_nil, List.set_cons_zero, List.set_cons_succ, List.set_nil, Option.some.injEq, D.int.injEq, D.bl.injEq, D.str.injEq, D.ref.injEq, D.ty.injEq, D.tup.injEq, D.lst.injEq, List.cons.injEq, and_true, true_and, ex_two, ex_two', exists_eq_left', exists_eq_left, exists_and_left, exists_and_right, exists_const, exists_eq_right, exists_eq_right', Bool.not_true, Bool.not_false, if_true, if_false, Bool.false_eq_true, reduceCtorEq, false_and, and_false, decide_true, decide_false, tyD_pur hpe, m_int, m_bool]
                cases e <;> first | (simpa [tyP, isiB, nonI] using k2) | (simp [Pur, pureN] at hpe)
              · rw [List.nil_append]
                refine ⟨sz _ (by omega), ?_⟩
                by_cases hab : ∃ i j, a = .int i ∧ b = .int j
                · obtain ⟨i, j, rfl, rfl⟩ := hab
                  refine ne_pur rfl rfl ⟨_, rfl, ?_⟩
                  have e1 : deq (.lst ((([D.int i, D.int j]).filter nonI).map fun _ => D.int 1)) (.lst []) = true := by simp [nonI, deq, deqs]
                  rw [e1]
                  simp only [dRet, dRetN, dSeq, dAsg, dDrop, dIfS, dNext, dBreak, dCont, dPar, dSetL, dSetD, dFor, dVar, dC, dOp, dAndV, dOrV, dNotV, dAnd, dOr, dNot, dIf, dTest, dChain, dNil, dCons, dTup, dLst, dLstM, dStar, dNeg, dCB, dCall, dCallK, dMthT, dMth0, dLc, dYes, dISeq, dIStr, dIEnum, dIZip, dIRng1, dIRng2, dSl, dPart, dNoPart, dRaise, dDisp1, dNewD, dRevL, dRevT, dSortSet, dSortSetL, dIRng3, dGet2, dIKeys, dNewT, dSetT, dLstRg, dPar3, dLamA, dLamB, gdName, gdTup, gdCons, gdNil, dstart, dwipe, dAug, rdInt, rdSub, rdLt, rdLe, rdGt, rdGe, rdFdiv, rdMod, rdPow, at0, at1, at2, i30, i31, i32, set0, set1, set2, MO.lst.injEq, gup_same, gup_gup, ad_ii, ad_ss, ad_tt, ad_ll, mu_ii, mu_li, mu_ti, ix_t, ix_l, ix_s, ix_r, ix_w, ln_t, ln_l, ln_s, ln_w, ln_r, sr_t, sr_l, sr_s, sr_r, sl_t, sl_l, sl_s, sl_r, sl_w, tu_t, tu_l, tu_r, li_t, li_l, li_r, lm_t, lm_l, mx2, mn2, ab1, in1, is2, rdIsB, rdNotB, rdIsN, rdNotN, TD.isNon, List.map_cons, List.map_nil, List.length_cons, List.length_nil, List.replicate_succ, List.replicate_zero, List.cons_append, List.nil_append, List.append_nil, Nat.zero_add, Nat.reduceAdd, Nat.reduceSub, Nat.sub_self, Nat.add_sub_cancel, List.getElem?_cons_zero, List.getElem?_cons_succ, List.getElem?_nil, List.set_cons_zero, List.set_cons_succ, List.set_nil, Option.some.injEq, D.int.injEq, D.bl.injEq, D.str.injEq, D.ref.injEq, D.ty.injEq, D.tup.injEq, D.lst.injEq, List.cons.injEq, and_true, true_and, ex_two, ex_two', exists_eq_left', exists_eq_left, exists_and_left, exists_and_right, exists_const, exists_eq_right, exists_eq_right', Bool.not_true, Bool.not_false, if_true, if_false, Bool.false_eq_true, reduceCtorEq, false_and, and_false, decide_true, decide_false]
                  have pl : plB ts.length (.tup [.int i, .int j]) = (decide (0 ≤ i) && decide (i ≤ (ts.length : Int) - 1) && (decide (-100 ≤ j) && decide (j ≤ 200))) := rfl
                  by_cases d1 : 0 ≤ i
                  · by_cases d2 : i < (ts.length : Int)
                    · by_cases d3 : -100 ≤ j
                      · by_cases d4 : j ≤ 200
                        · simp only [d1, d2, d3, d4, decide_true, if_true, Bool.not_true, Bool.false_eq_true, if_false]
                          refine hK _ _ ⟨rfl, _, rfl, ?_⟩
                          rw [List.take_succ, hk, List.all_append, hall]
                          have : plB ts.length (.tup [.int i, .int j]) = true := by rw [pl]; simp [d1, d3, d4]; omega
                          simp [this]
                        · have hn := no (by rw [pl]; simp [d4])
                          simpa [d1, d2, d3, d4] using hn
                      · have hn := no (by rw [pl]; simp [d3])
                        simpa [d1, d2, d3] using hn
                    · have hn := no (by rw [pl]; have : ¬ i ≤ (ts.length : Int) - 1 := by omega
                                        simp [this])
                      simpa [d1, d2] using hn
                  · have hn := no (by rw [pl]; simp [d1])
                    simpa [d1] using hn
                · have hnon : ∃ r, (([a, b].filter nonI).map fun _ => D.int 1) = .int 1 :: r := by
                    by_cases ha : nonI a = true
                    · exact ⟨_, by rw [List.filter_cons_of_pos ha, List.map_cons]⟩
                    · have hb : nonI b = true := by
                        cases hb : nonI b with
                        | true => rfl
                        | false =>
                          obtain ⟨i, ei⟩ := nonI_int (by simpa using ha)
                          obtain ⟨j, ej⟩ := nonI_int hb
                          exact absurd ⟨i, j, ei, ej⟩ hab
                      exact ⟨_, by rw [List.filter_cons_of_neg ha, List.filter_cons_of_pos hb, List.map_cons]⟩
                  obtain ⟨r, er⟩ := hnon
                  have pur1 : Pur (.lst (([a, b].filter nonI).map fun _ => D.int 1)) := pur_lstI fun y hy => by
                    obtain ⟨_, _, rfl⟩ := List.mem_map.mp hy
                    rfl
                  refine ne_pur pur1 rfl ⟨_, rfl, ?_⟩
                  have e1 : deq (.lst (([a, b].filter nonI).map fun _ => D.int 1)) (.lst []) = false := by rw [er]; simp [deq, deqs]
                  rw [e1]
                  simp only [Bool.not_false, if_true]
                  refine no ?_
                  cases hpl : plB ts.length (.tup [a, b]) with
                  | false => rfl
                  | true =>
                    obtain ⟨p, e, _⟩ := plB_ok hpl
                    injection e with e
                    injection e with e2 e
                    injection e with e3
                    exact absurd ⟨_, _, e2, e3⟩ hab
            · simp only [c, decide_false, Bool.not_false, if_true]
              refine no ?_
              unfold plB
              split
              · rename_i a b e; injection e with e; subst e; simp at c
              · rfl
          · rw [isi_not fun ys e => ht ⟨ys, e⟩]
            simp only [Bool.not_false, if_true]
            refine no ?_
            unfold plB
            split
            · exact absurd ⟨_, rfl⟩ ht
            · rfl
        · obtain ⟨rfl, o2, rfl, hall⟩ := hI
          rw [Nat.zero_add, List.take_length] at hall
          rw [hall] at q
          simp only [dRet, dRetN, dSeq, dAsg, dDrop, dIfS, dNext, dBreak, dCont, dPar, dSetL, dSetD, dFor, dVar, dC, dOp, dAndV, dOrV, dNotV, dAnd, dOr, dNot, dIf, dTest, dChain, dNil, dCons, dTup, dLst, dLstM, dStar, dNeg, dCB, dCall, dCallK, dMthT, dMth0, dLc, dYes, dISeq, dIStr, dIEnum, dIZip, dIRng1, dIRng2, dSl, dPart, dNoPart, dRaise, dDisp1, dNewD, dRevL, dRevT, dSortSet, dSortSetL, dIRng3, dGet2, dIKeys, dNewT, dSetT, dLstRg, dPar3, dLamA, dLamB, gdName, gdTup, gdCons, gdNil, dstart, dwipe, dAug, rdInt, rdSub, rdLt, rdLe, rdGt, rdGe, rdFdiv, rdMod, rdPow, at0, at1, at2, i30, i31, i32, set0, set1, set2, MO.lst.injEq, gup_same, gup_gup, ad_ii, ad_ss, ad_tt, ad_ll, mu_ii, mu_li, mu_ti, ix_t, ix_l, ix_s, ix_r, ix_w, ln_t, ln_l, ln_s, ln_w, ln_r, sr_t, sr_l, sr_s, sr_r, sl_t, sl_l, sl_s, sl_r, sl_w, tu_t, tu_l, tu_r, li_t, li_l, li_r, lm_t, lm_l, mx2, mn2, ab1, in1, is2, rdIsB, rdNotB, rdIsN, rdNotN, TD.isNon, List.map_cons, List.map_nil, List.length_cons, List.length_nil, List.replicate_succ, List.replicate_zero, List.cons_append, List.nil_append, List.append_nil, Nat.zero_add, Nat.reduceAdd, Nat.reduceSub, Nat.sub_self, Nat.add_sub_cancel, List.getElem?_cons_zero, List.getElem?_cons_succ, List.getElem?_nil, List.set_cons_zero, List.set_cons_succ, List.set_nil, Option.some.injEq, D.int.injEq, D.bl.injEq, D.str.injEq, D.ref.injEq, D.ty.injEq, D.tup.injEq, D.lst.injEq, List.cons.injEq, and_true, true_and, ex_two, ex_two', exists_eq_left', exists_eq_left, exists_and_left, exists_and_right, exists_const, exists_eq_right, exists_eq_right', Bool.not_true, Bool.not_false, if_true, if_false, Bool.false_eq_true, reduceCtorEq, false_and, and_false, decide_true, decide_false]
          exact q
    | _ => first | (simpa [tyP, isiB, frB] using q) | (simp [Pur, pureN] at hp)
  · exact h.elim
end K06
namespace K06
open PySem L2 TD
def sp__law_is_due (A : Ad) : SpD := fun zs G Q _ => match zs with
  | [v, .int gap, .int span, u, .int most] => ∃ ts, v = trsD ts ∧ Pur u ∧ Q (.bl (cvB ts gap u && decide (loadW ts span (decs u) = most))) G
  | _ => False
theorem len__law_is_due {A : Ad} {zs : List D} {G : GH} {Q : DK} {x : XD} (h : sp__law_is_due A zs G Q x) : zs.length = 5 := by
  unfold sp__law_is_due at h
  split at h <;> first | rfl | exact h.elim
def ds__law_is_due (A : Ad) : DS := dSeq (dIfS (dNot (dTest (dCall (sp__law_fronts_right A) (dCons (dVar 0) (dCons (dVar 3) dNil))))) (dRet (dC (.bl false))) dNext) (dSeq (dIfS (dTest (dOp rdNe (dLc (dIRng2 (dCons (dC (.int 1)) (dCons (dCB rdLen (dCons (dVar 3) dNil)) dNil))) (gdName 5) (dTest (dOp rdLt (dOp rdIx (dOp rdIx (dVar 3) (dVar 5)) (dC (.int 1))) (dOp rdAdd (dOp rdAdd (dOp rdIx (dOp rdIx (dVar 3) (dOp rdSub (dVar 5) (dC (.int 1)))) (dC (.int 1))) (dOp rdIx (dOp rdIx (dVar 0) (dOp rdIx (dOp rdIx (dVar 3) (dOp rdSub (dVar 5) (dC (.int 1)))) (dC (.int 0)))) (dC (.int 0)))) (dVar 1)))) (dVar 5) [5]) (dLst dNil))) (dRet (dC (.bl false))) dNext) (dRet (dOp rdEq (dCB rdSum (dCons (dLc (dISeq (dVar 3)) (gdTup (gdCons (gdName 6) (gdCons (gdName 7) gdNil)) 2) dYes (dCall (sp__law_on A) (dCons (dOp rdIx (dVar 0) (dVar 6)) (dCons (dVar 2) (dCons (dVar 7) dNil)))) [6, 7]) dNil)) (dVar 4))))
def N__law_is_due : List PySem.Str := ["trucks", "gap", "span", "value", "most", "at", "truck", "front"]
theorem read__law_is_due {A : Ad} {zs : List D} {G : GH} {Q : DK} {x : XD} (h : sp__law_is_due A zs G Q x) : ds__law_is_due A { nx := fun _ G' => Q .non G', rt := Q, xx := fun _ => x } (dstart N__law_is_due zs) G := by
  unfold sp__law_is_due at h
  split at h
  · rename_i v gap span u most
    obtain ⟨ts, rfl, hu, k⟩ := h
    unfold N__law_is_due ds__law_is_due
    simp only [dRet, dRetN, dSeq, dAsg, dDrop, dIfS, dNext, dBreak, dCont, dPar, dSetL, dSetD, dFor, dVar, dC, dOp, dAndV, dOrV, dNotV, dAnd, dOr, dNot, dIf, dTest, dChain, dNil, dCons, dTup, dLst, dLstM, dStar, dNeg, dCB, dCall, dCallK, dMthT, dMth0, dLc, dYes, dISeq, dIStr, dIEnum, dIZip, dIRng1, dIRng2, dSl, dPart, dNoPart, dRaise, dDisp1, dNewD, dRevL, dRevT, dSortSet, dSortSetL, dIRng3, dGet2, dIKeys, dNewT, dSetT, dLstRg, dPar3, dLamA, dLamB, gdName, gdTup, gdCons, gdNil, dstart, dwipe, dAug, rdInt, rdSub, rdLt, rdLe, rdGt, rdGe, rdFdiv, rdMod, rdPow, at0, at1, at2, i30, i31, i32, set0, set1, set2, MO.lst.injEq, gup_same, gup_gup, ad_ii, ad_ss, ad_tt, ad_ll, mu_ii, mu_li, mu_ti, ix_t, ix_l, ix_s, ix_r, ix_w, ln_t, ln_l, ln_s, ln_w, ln_r, sr_t, sr_l, sr_s, sr_r, sl_t, sl_l, sl_s, sl_r, sl_w, tu_t, tu_l, tu_r, li_t, li_l, li_r, lm_t, lm_l, mx2, mn2, ab1, in1, is2, rdIsB, rdNotB, rdIsN, rdNotN, TD.isNon, List.map_cons, List.map_nil, List.length_cons, List.length_nil, List.replicate_succ, List.replicate_zero, List.cons_append, List.nil_append, List.append_nil, Nat.zero_add, Nat.reduceAdd, Nat.reduceSub, Nat.sub_self, Nat.add_sub_cancel, List.getElem?_cons_zero, List.getElem?_cons_succ, List.getElem?_nil, List.set_cons_zero, List.set_cons_succ, List.set_nil, Option.some.injEq, D.int.injEq, D.bl.injEq, D.str.injEq, D.ref.injEq, D.ty.injEq, D.tup.injEq, D.lst.injEq, List.cons.injEq, and_true, true_and, ex_two, ex_two', exists_eq_left', exists_eq_left, exists_and_left, exists_and_right, exists_const, exists_eq_right, exists_eq_right', Bool.not_true, Bool.not_false, if_true, if_false, Bool.false_eq_true, reduceCtorEq, false_and, and_false, decide_true, decide_false]
    unfold trsD
    refine ⟨hu, _, rfl, ?_⟩
    rw [List.length_map]
    unfold cvB at k
    cases c4 : frB ts.length u with
    | false =>
      rw [c4] at k
      simp only [Bool.not_false, if_true]
      simpa using k
    | true =>
      obtain ⟨fs, rfl, l, hb⟩ := frB_ok c4
      have hi' : ∀ p ∈ fs, p.1 < ts.length := fun p hp => by have := (hb p hp).1; omega
      rw [c4, decs_frs] at k
      simp only [Bool.true_and] at k
      simp only [Bool.not_true, Bool.false_eq_true, if_false, frsD, dRet, dRetN, dSeq, dAsg, dDrop, dIfS, dNext, dBreak, dCont, dPar, dSetL, dSetD, dFor, dVar, dC, dOp, dAndV, dOrV, dNotV, dAnd, dOr, dNot, dIf, dTest, dChain, dNil, dCons, dTup, dLst, dLstM, dStar, dNeg, dCB, dCall, dCallK, dMthT, dMth0, dLc, dYes, dISeq, dIStr, dIEnum, dIZip, dIRng1, dIRng2, dSl, dPart, dNoPart, dRaise, dDisp1, dNewD, dRevL, dRevT, dSortSet, dSortSetL, dIRng3, dGet2, dIKeys, dNewT, dSetT, dLstRg, dPar3, dLamA, dLamB, gdName, gdTup, gdCons, gdNil, dstart, dwipe, dAug, rdInt, rdSub, rdLt, rdLe, rdGt, rdGe, rdFdiv, rdMod, rdPow, at0, at1, at2, i30, i31, i32, set0, set1, set2, MO.lst.injEq, gup_same, gup_gup, ad_ii, ad_ss, ad_tt, ad_ll, mu_ii, mu_li, mu_ti, ix_t, ix_l, ix_s, ix_r, ix_w, ln_t, ln_l, ln_s, ln_w, ln_r, sr_t, sr_l, sr_s, sr_r, sl_t, sl_l, sl_s, sl_r, sl_w, tu_t, tu_l, tu_r, li_t, li_l, li_r, lm_t, lm_l, mx2, mn2, ab1, in1, is2, rdIsB, rdNotB, rdIsN, rdNotN, TD.isNon, List.map_cons, List.map_nil, List.length_cons, List.length_nil, List.replicate_succ, List.replicate_zero, List.cons_append, List.nil_append, List.append_nil, Nat.zero_add, Nat.reduceAdd, Nat.reduceSub, Nat.sub_self, Nat.add_sub_cancel, List.getElem?_cons_zero, List.getElem?_cons_succ, List.getElem?_nil, List.set_cons_zero, List.set_cons_succ, List.set_nil, Option.some.injEq, D.int.injEq, D.bl.injEq, D.str.injEq, D.ref.injEq, D.ty.injEq, D.tup.injEq, D.lst.injEq, List.cons.injEq, and_true, true_and, ex_two, ex_two', exists_eq_left', exists_eq_left, exists_and_left, exists_and_right, exists_const, exists_eq_right, exists_eq_right', Bool.not_true, Bool.not_false, if_true, if_false, Bool.false_eq_true, reduceCtorEq, false_and, and_false, decide_true, decide_false, List.length_map]
      refine ⟨⟨by omega, by omega, by omega, by omega⟩, sz _ (by omega), ?_⟩
      have en : ((fs.length : Int) - 1).toNat = fs.length - 1 := by omega
      rw [en]
      have pairAt : ∀ i, i < fs.length - 1 → ∃ p r, fs[i]? = some p ∧ fs[i + 1]? = some r ∧ (List.zip fs (fs.drop 1))[i]? = some (p, r) := fun i hi => by
        have h1 := List.getElem?_eq_getElem (l := fs) (i := i) (by omega)
        have h2 := List.getElem?_eq_getElem (l := fs) (i := i + 1) (by omega)
        refine ⟨_, _, h1, h2, ?_⟩
        rw [List.getElem?_zip_eq_some]
        exact ⟨h1, by rw [List.getElem?_drop, Nat.add_comm 1 i]; exact h2⟩
      let pb : D → Bool := fun d => match d with
        | .int a => match (List.zip fs (fs.drop 1))[(a - 1).toNat]? with
          | some pr => !gapOk ts gap pr
          | none => false
        | _ => false
      refine dComp_filter pb id trivial (fun d hd K1 k1 => ?_) ?_
      · obtain ⟨i, hi, rfl⟩ := rngD_mem hd
        obtain ⟨p, r, h1, h2, h3⟩ := pairAt i hi
        have hp := hi' p (List.mem_of_getElem? h1)
        have epb : pb (.int (1 + (i : Int))) = !gapOk ts gap (p, r) := by
          show (match (List.zip fs (fs.drop 1))[(1 + (i : Int) - 1).toNat]? with | some pr => !gapOk ts gap pr | none => false) = _
          rw [show (1 + (i : Int) - 1).toNat = i by omega, h3]
        rw [epb] at k1
        have e1 : (1 + (i : Int)) = ((i + 1 : Nat) : Int) := by omega
        have e2 : (1 + (i : Int)) - 1 = (i : Int) := by omega
        simp only [dRet, dRetN, dSeq, dAsg, dDrop, dIfS, dNext, dBreak, dCont, dPar, dSetL, dSetD, dFor, dVar, dC, dOp, dAndV, dOrV, dNotV, dAnd, dOr, dNot, dIf, dTest, dChain, dNil, dCons, dTup, dLst, dLstM, dStar, dNeg, dCB, dCall, dCallK, dMthT, dMth0, dLc, dYes, dISeq, dIStr, dIEnum, dIZip, dIRng1, dIRng2, dSl, dPart, dNoPart, dRaise, dDisp1, dNewD, dRevL, dRevT, dSortSet, dSortSetL, dIRng3, dGet2, dIKeys, dNewT, dSetT, dLstRg, dPar3, dLamA, dLamB, gdName, gdTup, gdCons, gdNil, dstart, dwipe, dAug, rdInt, rdSub, rdLt, rdLe, rdGt, rdGe, rdFdiv, rdMod, rdPow, at0, at1, at2, i30, i31, i32, set0, set1, set2, MO.lst.injEq, gup_same, gup_gup, ad_ii, ad_ss, ad_tt, ad_ll, mu_ii, mu_li, mu_ti, ix_t, ix_l, ix_s, ix_r, ix_w, ln_t, ln_l, ln_s, ln_w, ln_r, sr_t, sr_l, sr_s, sr_r, sl_t, sl_l, sl_s, sl_r, sl_w, tu_t, tu_l, tu_r, li_t, li_l, li_r, lm_t, lm_l, mx2, mn2, ab1, in1, is2, rdIsB, rdNotB, rdIsN, rdNotN, TD.isNon, List.map_cons, List.map_nil, List.length_cons, List.length_nil, List.replicate_succ, List.replicate_zero, List.cons_append, List.nil_append, List.append_nil, Nat.zero_add, Nat.reduceAdd, Nat.reduceSub, Nat.sub_self, Nat.add_sub_cancel, List.getElem?_cons_zero, List.getElem?_cons_succ, List.getElem?_nil, List.set_cons_zero, List.set_cons_succ, List.set_nil, Option.some.injEq, D.int.injEq, D.bl.injEq, D.str.injEq, D.ref.injEq, D.ty.injEq, D.tup.injEq, D.lst.injEq, List.cons.injEq, and_true, true_and, ex_two, ex_two', exists_eq_left', exists_eq_left, exists_and_left, exists_and_right, exists_const, exists_eq_right, exists_eq_right', Bool.not_true, Bool.not_false, if_true, if_false, Bool.false_eq_true, reduceCtorEq, false_and, and_false, decide_true, decide_false, e2]
        refine ⟨frD r, by rw [e1]; exact atI_map_nat h2, ?_⟩
        have efr : ∀ p : Nat × Int, frD p = .tup [.int (p.1 : Int), .int p.2] := fun _ => rfl
        rw [efr r]
        simp only [dRet, dRetN, dSeq, dAsg, dDrop, dIfS, dNext, dBreak, dCont, dPar, dSetL, dSetD, dFor, dVar, dC, dOp, dAndV, dOrV, dNotV, dAnd, dOr, dNot, dIf, dTest, dChain, dNil, dCons, dTup, dLst, dLstM, dStar, dNeg, dCB, dCall, dCallK, dMthT, dMth0, dLc, dYes, dISeq, dIStr, dIEnum, dIZip, dIRng1, dIRng2, dSl, dPart, dNoPart, dRaise, dDisp1, dNewD, dRevL, dRevT, dSortSet, dSortSetL, dIRng3, dGet2, dIKeys, dNewT, dSetT, dLstRg, dPar3, dLamA, dLamB, gdName, gdTup, gdCons, gdNil, dstart, dwipe, dAug, rdInt, rdSub, rdLt, rdLe, rdGt, rdGe, rdFdiv, rdMod, rdPow, at0, at1, at2, i30, i31, i32, set0, set1, set2, MO.lst.injEq, gup_same, gup_gup, ad_ii, ad_ss, ad_tt, ad_ll, mu_ii, mu_li, mu_ti, ix_t, ix_l, ix_s, ix_r, ix_w, ln_t, ln_l, ln_s, ln_w, ln_r, sr_t, sr_l, sr_s, sr_r, sl_t, sl_l, sl_s, sl_r, sl_w, tu_t, tu_l, tu_r, li_t, li_l, li_r, lm_t, lm_l, mx2, mn2, ab1, in1, is2, rdIsB, rdNotB, rdIsN, rdNotN, TD.isNon, List.map_cons, List.map_nil, List.length_cons, List.length_nil, List.replicate_succ, List.replicate_zero, List.cons_append, List.nil_append, List.append_nil, Nat.zero_add, Nat.reduceAdd, Nat.reduceSub, Nat.sub_self, Nat.add_sub_cancel, List.getElem?_cons_zero, List.getElem?_cons_succ, List.getElem?_nil, List.set_cons_zero, List.set_cons_succ, List.set_nil, Option.some.injEq, D.int.injEq, D.bl.injEq, D.str.injEq, D.ref.injEq, D.ty.injEq, D.tup.injEq, D.lst.injEq, List.cons.injEq, and_true, true_and, ex_two, ex_two', exists_eq_left', exists_eq_left, exists_and_left, exists_and_right, exists_const, exists_eq_right, exists_eq_right', Bool.not_true, Bool.not_false, if_true, if_false, Bool.false_eq_true, reduceCtorEq, false_and, and_false, decide_true, decide_false]
        refine ⟨frD p, atI_map_nat h1, ?_⟩
        rw [efr p]
        simp only [dRet, dRetN, dSeq, dAsg, dDrop, dIfS, dNext, dBreak, dCont, dPar, dSetL, dSetD, dFor, dVar, dC, dOp, dAndV, dOrV, dNotV, dAnd, dOr, dNot, dIf, dTest, dChain, dNil, dCons, dTup, dLst, dLstM, dStar, dNeg, dCB, dCall, dCallK, dMthT, dMth0, dLc, dYes, dISeq, dIStr, dIEnum, dIZip, dIRng1, dIRng2, dSl, dPart, dNoPart, dRaise, dDisp1, dNewD, dRevL, dRevT, dSortSet, dSortSetL, dIRng3, dGet2, dIKeys, dNewT, dSetT, dLstRg, dPar3, dLamA, dLamB, gdName, gdTup, gdCons, gdNil, dstart, dwipe, dAug, rdInt, rdSub, rdLt, rdLe, rdGt, rdGe, rdFdiv, rdMod, rdPow, at0, at1, at2, i30, i31, i32, set0, set1, set2, MO.lst.injEq, gup_same, gup_gup, ad_ii, ad_ss, ad_tt, ad_ll, mu_ii, mu_li, mu_ti, ix_t, ix_l, ix_s, ix_r, ix_w, ln_t, ln_l, ln_s, ln_w, ln_r, sr_t, sr_l, sr_s, sr_r, sl_t, sl_l, sl_s, sl_r, sl_w, tu_t, tu_l, tu_r, li_t, li_l, li_r, lm_t, lm_l, mx2, mn2, ab1, in1, is2, rdIsB, rdNotB, rdIsN, rdNotN, TD.isNon, List.map_cons, List.map_nil, List.length_cons, List.length_nil, List.replicate_succ, List.replicate_zero, List.cons_append, List.nil_append, List.append_nil, Nat.zero_add, Nat.reduceAdd, Nat.reduceSub, Nat.sub_self, Nat.add_sub_cancel, List.getElem?_cons_zero, List.getElem?_cons_succ, List.getElem?_nil, List.set_cons_zero, List.set_cons_succ, List.set_nil, Option.some.injEq, D.int.injEq, D.bl.injEq, D.str.injEq, D.ref.injEq, D.ty.injEq, D.tup.injEq, D.lst.injEq, List.cons.injEq, and_true, true_and, ex_two, ex_two', exists_eq_left', exists_eq_left, exists_and_left, exists_and_right, exists_const, exists_eq_right, exists_eq_right', Bool.not_true, Bool.not_false, if_true, if_false, Bool.false_eq_true, reduceCtorEq, false_and, and_false, decide_true, decide_false]
        refine ⟨_, atI_map_nat h1, ?_⟩
        rw [efr p]
        simp only [dRet, dRetN, dSeq, dAsg, dDrop, dIfS, dNext, dBreak, dCont, dPar, dSetL, dSetD, dFor, dVar, dC, dOp, dAndV, dOrV, dNotV, dAnd, dOr, dNot, dIf, dTest, dChain, dNil, dCons, dTup, dLst, dLstM, dStar, dNeg, dCB, dCall, dCallK, dMthT, dMth0, dLc, dYes, dISeq, dIStr, dIEnum, dIZip, dIRng1, dIRng2, dSl, dPart, dNoPart, dRaise, dDisp1, dNewD, dRevL, dRevT, dSortSet, dSortSetL, dIRng3, dGet2, dIKeys, dNewT, dSetT, dLstRg, dPar3, dLamA, dLamB, gdName, gdTup, gdCons, gdNil, dstart, dwipe, dAug, rdInt, rdSub, rdLt, rdLe, rdGt, rdGe, rdFdiv, rdMod, rdPow, at0, at1, at2, i30, i31, i32, set0, set1, set2, MO.lst.injEq, gup_same, gup_gup, ad_ii, ad_ss, ad_tt, ad_ll, mu_ii, mu_li, mu_ti, ix_t, ix_l, ix_s, ix_r, ix_w, ln_t, ln_l, ln_s, ln_w, ln_r, sr_t, sr_l, sr_s, sr_r, sl_t, sl_l, sl_s, sl_r, sl_w, tu_t, tu_l, tu_r, li_t, li_l, li_r, lm_t, lm_l, mx2, mn2, ab1, in1, is2, rdIsB, rdNotB, rdIsN, rdNotN, TD.isNon, List.map_cons, List.map_nil, List.length_cons, List.length_nil, List.replicate_succ, List.replicate_zero, List.cons_append, List.nil_append, List.append_nil, Nat.zero_add, Nat.reduceAdd, Nat.reduceSub, Nat.sub_self, Nat.add_sub_cancel, List.getElem?_cons_zero, List.getElem?_cons_succ, List.getElem?_nil, List.set_cons_zero, List.set_cons_succ, List.set_nil, Option.some.injEq, D.int.injEq, D.bl.injEq, D.str.injEq, D.ref.injEq, D.ty.injEq, D.tup.injEq, D.lst.injEq, List.cons.injEq, and_true, true_and, ex_two, ex_two', exists_eq_left', exists_eq_left, exists_and_left, exists_and_right, exists_const, exists_eq_right, exists_eq_right', Bool.not_true, Bool.not_false, if_true, if_false, Bool.false_eq_true, reduceCtorEq, false_and, and_false, decide_true, decide_false]
        refine ⟨_, tOf_at hp, ?_⟩
        have etr : trD (tOf ts p.1) = .tup [.int (tOf ts p.1).len, .tup ((tOf ts p.1).ax.map axD)] := rfl
        rw [etr]
        simp only [dRet, dRetN, dSeq, dAsg, dDrop, dIfS, dNext, dBreak, dCont, dPar, dSetL, dSetD, dFor, dVar, dC, dOp, dAndV, dOrV, dNotV, dAnd, dOr, dNot, dIf, dTest, dChain, dNil, dCons, dTup, dLst, dLstM, dStar, dNeg, dCB, dCall, dCallK, dMthT, dMth0, dLc, dYes, dISeq, dIStr, dIEnum, dIZip, dIRng1, dIRng2, dSl, dPart, dNoPart, dRaise, dDisp1, dNewD, dRevL, dRevT, dSortSet, dSortSetL, dIRng3, dGet2, dIKeys, dNewT, dSetT, dLstRg, dPar3, dLamA, dLamB, gdName, gdTup, gdCons, gdNil, dstart, dwipe, dAug, rdInt, rdSub, rdLt, rdLe, rdGt, rdGe, rdFdiv, rdMod, rdPow, at0, at1, at2, i30, i31, i32, set0, set1, set2, MO.lst.injEq, gup_same, gup_gup, ad_ii, ad_ss, ad_tt, ad_ll, mu_ii, mu_li, mu_ti, ix_t, ix_l, ix_s, ix_r, ix_w, ln_t, ln_l, ln_s, ln_w, ln_r, sr_t, sr_l, sr_s, sr_r, sl_t, sl_l, sl_s, sl_r, sl_w, tu_t, tu_l, tu_r, li_t, li_l, li_r, lm_t, lm_l, mx2, mn2, ab1, in1, is2, rdIsB, rdNotB, rdIsN, rdNotN, TD.isNon, List.map_cons, List.map_nil, List.length_cons, List.length_nil, List.replicate_succ, List.replicate_zero, List.cons_append, List.nil_append, List.append_nil, Nat.zero_add, Nat.reduceAdd, Nat.reduceSub, Nat.sub_self, Nat.add_sub_cancel, List.getElem?_cons_zero, List.getElem?_cons_succ, List.getElem?_nil, List.set_cons_zero, List.set_cons_succ, List.set_nil, Option.some.injEq, D.int.injEq, D.bl.injEq, D.str.injEq, D.ref.injEq, D.ty.injEq, D.tup.injEq, D.lst.injEq, List.cons.injEq, and_true, true_and, ex_two, ex_two', exists_eq_left', exists_eq_left, exists_and_left, exists_and_right, exists_const, exists_eq_right, exists_eq_right', Bool.not_true, Bool.not_false, if_true, if_false, Bool.false_eq_true, reduceCtorEq, false_and, and_false, decide_true, decide_false]
        unfold gapOk at k1
        by_cases hc : r.2 < p.2 + (tOf ts p.1).len + gap
        · have : ¬ p.2 + (tOf ts p.1).len + gap ≤ r.2 := by omega
          simpa [hc, this] using k1
        · have : p.2 + (tOf ts p.1).len + gap ≤ r.2 := by omega
          simpa [hc, this] using k1
      · rw [List.nil_append, List.map_id]
        refine ⟨sz _ (by omega), ne_pur ?_ rfl ⟨_, rfl, ?_⟩⟩
        · refine pur_lstI fun y hy => ?_
          obtain ⟨i, _, rfl⟩ := rngD_mem (List.mem_filter.mp hy).1
          rfl
        · have pbz : ∀ i, i < fs.length - 1 → ∀ pr, (List.zip fs (fs.drop 1))[i]? = some pr → pb (.int (1 + (i : Int))) = !gapOk ts gap pr := fun i hi pr h3 => by
            show (match (List.zip fs (fs.drop 1))[(1 + (i : Int) - 1).toNat]? with | some pr => !gapOk ts gap pr | none => false) = _
            rw [show (1 + (i : Int) - 1).toNat = i by omega, h3]
          cases ho : okGaps ts gap fs with
          | true =>
            rw [ho] at k
            have ef : (rngD 1 (fs.length - 1)).filter pb = [] := by
              refine List.filter_eq_nil_iff.mpr fun d hd => ?_
              obtain ⟨i, hi, rfl⟩ := rngD_mem hd
              obtain ⟨p, r, _, _, h3⟩ := pairAt i hi
              rw [pbz i hi _ h3]
              have := List.all_eq_true.mp ho _ (List.mem_of_getElem? h3)
              simp [this]
            rw [ef, deq_nil]
            simp only [dRet, dRetN, dSeq, dAsg, dDrop, dIfS, dNext, dBreak, dCont, dPar, dSetL, dSetD, dFor, dVar, dC, dOp, dAndV, dOrV, dNotV, dAnd, dOr, dNot, dIf, dTest, dChain, dNil, dCons, dTup, dLst, dLstM, dStar, dNeg, dCB, dCall, dCallK, dMthT, dMth0, dLc, dYes, dISeq, dIStr, dIEnum, dIZip, dIRng1, dIRng2, dSl, dPart, dNoPart, dRaise, dDisp1, dNewD, dRevL, dRevT, dSortSet, dSortSetL, dIRng3, dGet2, dIKeys, dNewT, dSetT, dLstRg, dPar3, dLamA, dLamB, gdName, gdTup, gdCons, gdNil, dstart, dwipe, dAug, rdInt, rdSub, rdLt, rdLe, rdGt, rdGe, rdFdiv, rdMod, rdPow, at0, at1, at2, i30, i31, i32, set0, set1, set2, MO.lst.injEq, gup_same, gup_gup, ad_ii, ad_ss, ad_tt, ad_ll, mu_ii, mu_li, mu_ti, ix_t, ix_l, ix_s, ix_r, ix_w, ln_t, ln_l, ln_s, ln_w, ln_r, sr_t, sr_l, sr_s, sr_r, sl_t, sl_l, sl_s, sl_r, sl_w, tu_t, tu_l, tu_r, li_t, li_l, li_r, lm_t, lm_l, mx2, mn2, ab1, in1, is2, rdIsB, rdNotB, rdIsN, rdNotN, TD.isNon, List.map_cons, List.map_nil, List.length_cons, List.length_nil, List.replicate_succ, List.replicate_zero, List.cons_append, List.nil_append, List.append_nil, Nat.zero_add, Nat.reduceAdd, Nat.reduceSub, Nat.sub_self, Nat.add_sub_cancel, List.getElem?_cons_zero, List.getElem?_cons_succ, List.getElem?_nil, List.set_cons_zero, List.set_cons_succ, List.set_nil, Option.some.injEq, D.int.injEq, D.bl.injEq, D.str.injEq, D.ref.injEq, D.ty.injEq, D.tup.injEq, D.lst.injEq, List.cons.injEq, and_true, true_and, ex_two, ex_two', exists_eq_left', exists_eq_left, exists_and_left, exists_and_right, exists_const, exists_eq_right, exists_eq_right', Bool.not_true, Bool.not_false, if_true, if_false, Bool.false_eq_true, reduceCtorEq, false_and, and_false, decide_true, decide_false, Bool.not_true]
            refine dComp_map (fun d => .int (onW (tOf ts (dec d).1) span (dec d).2)) trivial (fun d hd K1 k1 => ?_) ?_
            · obtain ⟨p, hp, rfl⟩ := List.mem_map.mp hd
              have ed : dec (frD p) = p := Prod.ext (Int.toNat_natCast _) rfl
              rw [ed] at k1
              simp only [frD, dRet, dRetN, dSeq, dAsg, dDrop, dIfS, dNext, dBreak, dCont, dPar, dSetL, dSetD, dFor, dVar, dC, dOp, dAndV, dOrV, dNotV, dAnd, dOr, dNot, dIf, dTest, dChain, dNil, dCons, dTup, dLst, dLstM, dStar, dNeg, dCB, dCall, dCallK, dMthT, dMth0, dLc, dYes, dISeq, dIStr, dIEnum, dIZip, dIRng1, dIRng2, dSl, dPart, dNoPart, dRaise, dDisp1, dNewD, dRevL, dRevT, dSortSet, dSortSetL, dIRng3, dGet2, dIKeys, dNewT, dSetT, dLstRg, dPar3, dLamA, dLamB, gdName, gdTup, gdCons, gdNil, dstart, dwipe, dAug, rdInt, rdSub, rdLt, rdLe, rdGt, rdGe, rdFdiv, rdMod, rdPow, at0, at1, at2, i30, i31, i32, set0, set1, set2, MO.lst.injEq, gup_same, gup_gup, ad_ii, ad_ss, ad_tt, ad_ll, mu_ii, mu_li, mu_ti, ix_t, ix_l, ix_s, ix_r, ix_w, ln_t, ln_l, ln_s, ln_w, ln_r, sr_t, sr_l, sr_s, sr_r, sl_t, sl_l, sl_s, sl_r, sl_w, tu_t, tu_l, tu_r, li_t, li_l, li_r, lm_t, lm_l, mx2, mn2, ab1, in1, is2, rdIsB, rdNotB, rdIsN, rdNotN, TD.isNon, List.map_cons, List.map_nil, List.length_cons, List.length_nil, List.replicate_succ, List.replicate_zero, List.cons_append, List.nil_append, List.append_nil, Nat.zero_add, Nat.reduceAdd, Nat.reduceSub, Nat.sub_self, Nat.add_sub_cancel, List.getElem?_cons_zero, List.getElem?_cons_succ, List.getElem?_nil, List.set_cons_zero, List.set_cons_succ, List.set_nil, Option.some.injEq, D.int.injEq, D.bl.injEq, D.str.injEq, D.ref.injEq, D.ty.injEq, D.tup.injEq, D.lst.injEq, List.cons.injEq, and_true, true_and, ex_two, ex_two', exists_eq_left', exists_eq_left, exists_and_left, exists_and_right, exists_const, exists_eq_right, exists_eq_right', Bool.not_true, Bool.not_false, if_true, if_false, Bool.false_eq_true, reduceCtorEq, false_and, and_false, decide_true, decide_false]
              exact ⟨_, tOf_at (hi' p hp), _, rfl, k1⟩
            · rw [List.nil_append, List.map_map]
              have em : fs.map ((fun d => D.int (onW (tOf ts (dec d).1) span (dec d).2)) ∘ frD) = (fs.map fun (p : Nat × Int) => onW (tOf ts p.1) span p.2).map D.int := by
                rw [List.map_map]
                refine List.map_congr_left fun p _ => ?_
                have ed : dec (frD p) = p := Prod.ext (Int.toNat_natCast _) rfl
                show D.int (onW (tOf ts (dec (frD p)).1) span (dec (frD p)).2) = _
                rw [ed]; rfl
              rw [em]
              refine ⟨_, _, rfl, dInts_map _, eq_pur (pur_int _) (pur_int _) ?_⟩
              rw [deq_ii]
              have e8 : ((fs.map fun (p : Nat × Int) => onW (tOf ts p.1) span p.2).sum == most) = decide (loadW ts span fs = most) := by
                show (loadW ts span fs == most) = _
                by_cases h : loadW ts span fs = most <;> simp [h]
              rw [e8]
              simpa using k
          | false =>
            rw [ho] at k
            obtain ⟨pr, hpr, hbad⟩ := List.all_eq_false.mp ho
            obtain ⟨i, hi, e⟩ := List.mem_iff_getElem.mp hpr
            have hl : i < fs.length - 1 := by rw [List.length_zip, List.length_drop] at hi; omega
            have h3 : (List.zip fs (fs.drop 1))[i]? = some pr := by rw [List.getElem?_eq_getElem hi, e]
            have hmem : D.int (1 + (i : Int)) ∈ (rngD 1 (fs.length - 1)).filter pb := by
              refine List.mem_filter.mpr ⟨?_, ?_⟩
              · unfold rngD; exact List.mem_map.mpr ⟨i, List.mem_range.mpr hl, rfl⟩
              · rw [pbz i hl _ h3]; simp [hbad]
            cases hL : (rngD 1 (fs.length - 1)).filter pb with
            | nil => rw [hL] at hmem; cases hmem
            | cons a r =>
              have e2 : deq (.lst (a :: r)) (.lst []) = false := by simp [deq, deqs]
              rw [e2]
              simp only [Bool.not_false, if_true]
              simpa using k
  · exact h.elim
end K06
namespace K06
open PySem L2 TD
theorem nodup_len : ∀ {l m : List Int}, l.Nodup → (∀ x ∈ l, x ∈ m) → l.length ≤ m.length
  | [], _, _, _ => Nat.zero_le _
  | x :: l, m, hn, hs => by
    obtain ⟨h1, h2⟩ := List.nodup_cons.mp hn
    have hx := hs x List.mem_cons_self
    have := nodup_len (l := l) (m := m.erase x) h2 fun y hy => (List.mem_erase_of_ne (fun e => h1 (by rw [← e]; exact hy))).mpr (hs y (List.mem_cons_of_mem _ hy))
    rw [List.length_erase_of_mem hx] at this
    have := List.length_pos_of_mem hx
    rw [List.length_cons]
    omega
theorem pw_nodup {l : List Int} (h : l.Pairwise (· < ·)) : l.Nodup := h.imp fun a => Int.ne_of_lt a
def sp__law_truck (A : Ad) : SpD := fun zs G Q _ => match zs with
  | [.ref a, .int far] => ∃ m, Dc G a m ∧ m ≤ 500000 ∧ 1 ≤ far ∧ far ≤ 30 ∧ ∀ t G', WTr t → t.len ≤ far → Upd a (m + 30) G G' → Q (trD t) G'
  | _ => False
theorem len__law_truck {A : Ad} {zs : List D} {G : GH} {Q : DK} {x : XD} (h : sp__law_truck A zs G Q x) : zs.length = 2 := by
  unfold sp__law_truck at h
  split at h <;> first | rfl | exact h.elim
def ds__law_truck (A : Ad) : DS := dSeq (dAsg (dOp rdAdd (dC (.int 1)) (dCall (sp__law_roll A) (dCons (dVar 0) (dCons (dVar 1) dNil)))) (gdName 2)) (dSeq (dAsg (dSortSetL (dLc (dIRng1 (dCons (dOp rdAdd (dC (.int 1)) (dCall (sp__law_roll A) (dCons (dVar 0) (dCons (dC (.int 5)) dNil)))) dNil)) (gdName 3) dYes (dCall (sp__law_roll A) (dCons (dVar 0) (dCons (dOp rdAdd (dVar 2) (dC (.int 1))) dNil))) [3])) (gdName 4)) (dRet (dTup (dCons (dVar 2) (dCons (dCB rdTuple (dCons (dLc (dISeq (dVar 4)) (gdName 5) dYes (dTup (dCons (dVar 5) (dCons (dOp rdAdd (dC (.int 1)) (dCall (sp__law_pick A) (dCons (dVar 0) (dCons (dLst (dCons (dC (.int 0)) (dCons (dC (.int 4)) (dCons (dCall (sp__law_roll A) (dCons (dVar 0) (dCons (dC (.int 50)) dNil))) dNil)))) dNil)))) dNil))) [5]) dNil)) dNil)))))
def N__law_truck : List PySem.Str := ["dice", "far", "length", "axle", "places", "place"]
theorem read__law_truck {A : Ad} {zs : List D} {G : GH} {Q : DK} {x : XD} (h : sp__law_truck A zs G Q x) : ds__law_truck A { nx := fun _ G' => Q .non G', rt := Q, xx := fun _ => x } (dstart N__law_truck zs) G := by
  unfold sp__law_truck at h
  split at h
  · rename_i a far
    obtain ⟨m, hc, hm, f1, f2, q⟩ := h
    unfold N__law_truck ds__law_truck
    simp only [dRet, dRetN, dSeq, dAsg, dDrop, dIfS, dNext, dBreak, dCont, dPar, dSetL, dSetD, dFor, dVar, dC, dOp, dAndV, dOrV, dNotV, dAnd, dOr, dNot, dIf, dTest, dChain, dNil, dCons, dTup, dLst, dLstM, dStar, dNeg, dCB, dCall, dCallK, dMthT, dMth0, dLc, dYes, dISeq, dIStr, dIEnum, dIZip, dIRng1, dIRng2, dSl, dPart, dNoPart, dRaise, dDisp1, dNewD, dRevL, dRevT, dSortSet, dSortSetL, dIRng3, dGet2, dIKeys, dNewT, dSetT, dLstRg, dPar3, dLamA, dLamB, gdName, gdTup, gdCons, gdNil, dstart, dwipe, dAug, rdInt, rdSub, rdLt, rdLe, rdGt, rdGe, rdFdiv, rdMod, rdPow, at0, at1, at2, i30, i31, i32, set0, set1, set2, MO.lst.injEq, gup_same, gup_gup, ad_ii, ad_ss, ad_tt, ad_ll, mu_ii, mu_li, mu_ti, ix_t, ix_l, ix_s, ix_r, ix_w, ln_t, ln_l, ln_s, ln_w, ln_r, sr_t, sr_l, sr_s, sr_r, sl_t, sl_l, sl_s, sl_r, sl_w, tu_t, tu_l, tu_r, li_t, li_l, li_r, lm_t, lm_l, mx2, mn2, ab1, in1, is2, rdIsB, rdNotB, rdIsN, rdNotN, TD.isNon, List.map_cons, List.map_nil, List.length_cons, List.length_nil, List.replicate_succ, List.replicate_zero, List.cons_append, List.nil_append, List.append_nil, Nat.zero_add, Nat.reduceAdd, Nat.reduceSub, Nat.sub_self, Nat.add_sub_cancel, List.getElem?_cons_zero, List.getElem?_cons_succ, List.getElem?_nil, List.set_cons_zero, List.set_cons_succ, List.set_nil, Option.some.injEq, D.int.injEq, D.bl.injEq, D.str.injEq, D.ref.injEq, D.ty.injEq, D.tup.injEq, D.lst.injEq, List.cons.injEq, and_true, true_and, ex_two, ex_two', exists_eq_left', exists_eq_left, exists_and_left, exists_and_right, exists_const, exists_eq_right, exists_eq_right', Bool.not_true, Bool.not_false, if_true, if_false, Bool.false_eq_true, reduceCtorEq, false_and, and_false, decide_true, decide_false]
    refine roll_of hc (by omega) (by omega) (by omega) fun r G1 hr u1 => ?_
    try simp only [dRet, dRetN, dSeq, dAsg, dDrop, dIfS, dNext, dBreak, dCont, dPar, dSetL, dSetD, dFor, dVar, dC, dOp, dAndV, dOrV, dNotV, dAnd, dOr, dNot, dIf, dTest, dChain, dNil, dCons, dTup, dLst, dLstM, dStar, dNeg, dCB, dCall, dCallK, dMthT, dMth0, dLc, dYes, dISeq, dIStr, dIEnum, dIZip, dIRng1, dIRng2, dSl, dPart, dNoPart, dRaise, dDisp1, dNewD, dRevL, dRevT, dSortSet, dSortSetL, dIRng3, dGet2, dIKeys, dNewT, dSetT, dLstRg, dPar3, dLamA, dLamB, gdName, gdTup, gdCons, gdNil, dstart, dwipe, dAug, rdInt, rdSub, rdLt, rdLe, rdGt, rdGe, rdFdiv, rdMod, rdPow, at0, at1, at2, i30, i31, i32, set0, set1, set2, MO.lst.injEq, gup_same, gup_gup, ad_ii, ad_ss, ad_tt, ad_ll, mu_ii, mu_li, mu_ti, ix_t, ix_l, ix_s, ix_r, ix_w, ln_t, ln_l, ln_s, ln_w, ln_r, sr_t, sr_l, sr_s, sr_r, sl_t, sl_l, sl_s, sl_r, sl_w, tu_t, tu_l, tu_r, li_t, li_l, li_r, lm_t, lm_l, mx2, mn2, ab1, in1, is2, rdIsB, rdNotB, rdIsN, rdNotN, TD.isNon, List.map_cons, List.map_nil, List.length_cons, List.length_nil, List.replicate_succ, List.replicate_zero, List.cons_append, List.nil_append, List.append_nil, Nat.zero_add, Nat.reduceAdd, Nat.reduceSub, Nat.sub_self, Nat.add_sub_cancel, List.getElem?_cons_zero, List.getElem?_cons_succ, List.getElem?_nil, List.set_cons_zero, List.set_cons_succ, List.set_nil, Option.some.injEq, D.int.injEq, D.bl.injEq, D.str.injEq, D.ref.injEq, D.ty.injEq, D.tup.injEq, D.lst.injEq, List.cons.injEq, and_true, true_and, ex_two, ex_two', exists_eq_left', exists_eq_left, exists_and_left, exists_and_right, exists_const, exists_eq_right, exists_eq_right', Bool.not_true, Bool.not_false, if_true, if_false, Bool.false_eq_true, reduceCtorEq, false_and, and_false, decide_true, decide_false]
    refine roll_of u1.2 (by omega) (by omega) (by omega) fun r2 G2 hr2 u2 => ?_
    obtain ⟨len, hlen⟩ : ∃ len : Int, len = 1 + r := ⟨_, rfl⟩
    try simp only [dRet, dRetN, dSeq, dAsg, dDrop, dIfS, dNext, dBreak, dCont, dPar, dSetL, dSetD, dFor, dVar, dC, dOp, dAndV, dOrV, dNotV, dAnd, dOr, dNot, dIf, dTest, dChain, dNil, dCons, dTup, dLst, dLstM, dStar, dNeg, dCB, dCall, dCallK, dMthT, dMth0, dLc, dYes, dISeq, dIStr, dIEnum, dIZip, dIRng1, dIRng2, dSl, dPart, dNoPart, dRaise, dDisp1, dNewD, dRevL, dRevT, dSortSet, dSortSetL, dIRng3, dGet2, dIKeys, dNewT, dSetT, dLstRg, dPar3, dLamA, dLamB, gdName, gdTup, gdCons, gdNil, dstart, dwipe, dAug, rdInt, rdSub, rdLt, rdLe, rdGt, rdGe, rdFdiv, rdMod, rdPow, at0, at1, at2, i30, i31, i32, set0, set1, set2, MO.lst.injEq, gup_same, gup_gup, ad_ii, ad_ss, ad_tt, ad_ll, mu_ii, mu_li, mu_ti, ix_t, ix_l, ix_s, ix_r, ix_w, ln_t, ln_l, ln_s, ln_w, ln_r, sr_t, sr_l, sr_s, sr_r, sl_t, sl_l, sl_s, sl_r, sl_w, tu_t, tu_l, tu_r, li_t, li_l, li_r, lm_t, lm_l, mx2, mn2, ab1, in1, is2, rdIsB, rdNotB, rdIsN, rdNotN, TD.isNon, List.map_cons, List.map_nil, List.length_cons, List.length_nil, List.replicate_succ, List.replicate_zero, List.cons_append, List.nil_append, List.append_nil, Nat.zero_add, Nat.reduceAdd, Nat.reduceSub, Nat.sub_self, Nat.add_sub_cancel, List.getElem?_cons_zero, List.getElem?_cons_succ, List.getElem?_nil, List.set_cons_zero, List.set_cons_succ, List.set_nil, Option.some.injEq, D.int.injEq, D.bl.injEq, D.str.injEq, D.ref.injEq, D.ty.injEq, D.tup.injEq, D.lst.injEq, List.cons.injEq, and_true, true_and, ex_two, ex_two', exists_eq_left', exists_eq_left, exists_and_left, exists_and_right, exists_const, exists_eq_right, exists_eq_right', Bool.not_true, Bool.not_false, if_true, if_false, Bool.false_eq_true, reduceCtorEq, false_and, and_false, decide_true, decide_false]
    rw [← hlen]
    have u3 := u1.trans u2
    have en : (1 + (r2 : Int)).toNat = r2 + 1 := by omega
    refine ⟨by omega, sz _ (by omega), ?_⟩
    rw [en]
    refine dComp_inv (fun i acc G' => ∃ ns : List Int, acc = ns.map D.int ∧ ns.length = i ∧ (∀ x ∈ ns, 0 ≤ x ∧ x ≤ len) ∧ Upd a (m + 2 + i) G G') 0 ⟨[], rfl, rfl, fun x hx => (List.not_mem_nil hx).elim, u3⟩ (fun _ _ _ _ _ _ => trivial) (fun i dd acc G3 hi hI K1 hK => ?_) (fun acc G3 hI => ?_)
    · obtain ⟨ns, rfl, hl, hb, u⟩ := hI
      obtain ⟨hi1, rfl⟩ := rngD_get hi
      rw [Nat.zero_add] at *
      simp only [dRet, dRetN, dSeq, dAsg, dDrop, dIfS, dNext, dBreak, dCont, dPar, dSetL, dSetD, dFor, dVar, dC, dOp, dAndV, dOrV, dNotV, dAnd, dOr, dNot, dIf, dTest, dChain, dNil, dCons, dTup, dLst, dLstM, dStar, dNeg, dCB, dCall, dCallK, dMthT, dMth0, dLc, dYes, dISeq, dIStr, dIEnum, dIZip, dIRng1, dIRng2, dSl, dPart, dNoPart, dRaise, dDisp1, dNewD, dRevL, dRevT, dSortSet, dSortSetL, dIRng3, dGet2, dIKeys, dNewT, dSetT, dLstRg, dPar3, dLamA, dLamB, gdName, gdTup, gdCons, gdNil, dstart, dwipe, dAug, rdInt, rdSub, rdLt, rdLe, rdGt, rdGe, rdFdiv, rdMod, rdPow, at0, at1, at2, i30, i31, i32, set0, set1, set2, MO.lst.injEq, gup_same, gup_gup, ad_ii, ad_ss, ad_tt, ad_ll, mu_ii, mu_li, mu_ti, ix_t, ix_l, ix_s, ix_r, ix_w, ln_t, ln_l, ln_s, ln_w, ln_r, sr_t, sr_l, sr_s, sr_r, sl_t, sl_l, sl_s, sl_r, sl_w, tu_t, tu_l, tu_r, li_t, li_l, li_r, lm_t, lm_l, mx2, mn2, ab1, in1, is2, rdIsB, rdNotB, rdIsN, rdNotN, TD.isNon, List.map_cons, List.map_nil, List.length_cons, List.length_nil, List.replicate_succ, List.replicate_zero, List.cons_append, List.nil_append, List.append_nil, Nat.zero_add, Nat.reduceAdd, Nat.reduceSub, Nat.sub_self, Nat.add_sub_cancel, List.getElem?_cons_zero, List.getElem?_cons_succ, List.getElem?_nil, List.set_cons_zero, List.set_cons_succ, List.set_nil, Option.some.injEq, D.int.injEq, D.bl.injEq, D.str.injEq, D.ref.injEq, D.ty.injEq, D.tup.injEq, D.lst.injEq, List.cons.injEq, and_true, true_and, ex_two, ex_two', exists_eq_left', exists_eq_left, exists_and_left, exists_and_right, exists_const, exists_eq_right, exists_eq_right', Bool.not_true, Bool.not_false, if_true, if_false, Bool.false_eq_true, reduceCtorEq, false_and, and_false, decide_true, decide_false]
      refine roll_of u.2 (by omega) (by omega) (by omega) fun r3 G4 hr3 u4 => ?_
      refine hK _ _ ⟨ns ++ [(r3 : Int)], intsL_snoc ns _, by rw [List.length_append, hl]; rfl, fun x hx => ?_, (u.trans u4).mono (by omega)⟩
      rcases List.mem_append.mp hx with hx | hx
      · exact hb x hx
      · rw [List.mem_singleton.mp hx]; omega
    · obtain ⟨ns, rfl, hl, hb, u⟩ := hI
      rw [rngD_len, Nat.zero_add] at hl u
      refine ⟨ns, rfl, by omega, fun ms hp hmem => ?_⟩
      have ml : ms.length ≤ 5 := Nat.le_trans (nodup_len (pw_nodup hp) fun x hx => (hmem x).mp hx) (by omega)
      have m1 : 1 ≤ ms.length := by
        cases ns with
        | nil => simp at hl
        | cons y _ => exact List.length_pos_of_mem ((hmem y).mpr List.mem_cons_self)
      have mb : ∀ x ∈ ms, 0 ≤ x ∧ x ≤ len := fun x hx => hb x ((hmem x).mp hx)
      try simp only [dRet, dRetN, dSeq, dAsg, dDrop, dIfS, dNext, dBreak, dCont, dPar, dSetL, dSetD, dFor, dVar, dC, dOp, dAndV, dOrV, dNotV, dAnd, dOr, dNot, dIf, dTest, dChain, dNil, dCons, dTup, dLst, dLstM, dStar, dNeg, dCB, dCall, dCallK, dMthT, dMth0, dLc, dYes, dISeq, dIStr, dIEnum, dIZip, dIRng1, dIRng2, dSl, dPart, dNoPart, dRaise, dDisp1, dNewD, dRevL, dRevT, dSortSet, dSortSetL, dIRng3, dGet2, dIKeys, dNewT, dSetT, dLstRg, dPar3, dLamA, dLamB, gdName, gdTup, gdCons, gdNil, dstart, dwipe, dAug, rdInt, rdSub, rdLt, rdLe, rdGt, rdGe, rdFdiv, rdMod, rdPow, at0, at1, at2, i30, i31, i32, set0, set1, set2, MO.lst.injEq, gup_same, gup_gup, ad_ii, ad_ss, ad_tt, ad_ll, mu_ii, mu_li, mu_ti, ix_t, ix_l, ix_s, ix_r, ix_w, ln_t, ln_l, ln_s, ln_w, ln_r, sr_t, sr_l, sr_s, sr_r, sl_t, sl_l, sl_s, sl_r, sl_w, tu_t, tu_l, tu_r, li_t, li_l, li_r, lm_t, lm_l, mx2, mn2, ab1, in1, is2, rdIsB, rdNotB, rdIsN, rdNotN, TD.isNon, List.map_cons, List.map_nil, List.length_cons, List.length_nil, List.replicate_succ, List.replicate_zero, List.cons_append, List.nil_append, List.append_nil, Nat.zero_add, Nat.reduceAdd, Nat.reduceSub, Nat.sub_self, Nat.add_sub_cancel, List.getElem?_cons_zero, List.getElem?_cons_succ, List.getElem?_nil, List.set_cons_zero, List.set_cons_succ, List.set_nil, Option.some.injEq, D.int.injEq, D.bl.injEq, D.str.injEq, D.ref.injEq, D.ty.injEq, D.tup.injEq, D.lst.injEq, List.cons.injEq, and_true, true_and, ex_two, ex_two', exists_eq_left', exists_eq_left, exists_and_left, exists_and_right, exists_const, exists_eq_right, exists_eq_right', Bool.not_true, Bool.not_false, if_true, if_false, Bool.false_eq_true, reduceCtorEq, false_and, and_false, decide_true, decide_false]
      refine dComp_inv (fun i acc G' => ∃ ax : List (Int × Int), acc = ax.map axD ∧ ax.map (·.1) = ms.take i ∧ i ≤ ms.length ∧ (∀ x ∈ ax, 1 ≤ x.2 ∧ x.2 ≤ 50) ∧ Upd a (m + 2 + (r2 + 1) + 2 * i) G G') 0 ⟨[], rfl, rfl, Nat.zero_le _, fun x hx => (List.not_mem_nil hx).elim, u⟩ (fun _ _ _ _ _ _ => trivial) (fun i dd acc G4 hi hI K1 hK => ?_) (fun acc G4 hI => ?_)
      · obtain ⟨ax, rfl, hax, hil, hb2, u4⟩ := hI
        rw [Nat.zero_add] at *
        rw [List.getElem?_map] at hi
        obtain ⟨pl, hpl, rfl⟩ := Option.map_eq_some_iff.mp hi
        have hil2 := (List.getElem?_eq_some_iff.mp hpl).1
        simp only [dRet, dRetN, dSeq, dAsg, dDrop, dIfS, dNext, dBreak, dCont, dPar, dSetL, dSetD, dFor, dVar, dC, dOp, dAndV, dOrV, dNotV, dAnd, dOr, dNot, dIf, dTest, dChain, dNil, dCons, dTup, dLst, dLstM, dStar, dNeg, dCB, dCall, dCallK, dMthT, dMth0, dLc, dYes, dISeq, dIStr, dIEnum, dIZip, dIRng1, dIRng2, dSl, dPart, dNoPart, dRaise, dDisp1, dNewD, dRevL, dRevT, dSortSet, dSortSetL, dIRng3, dGet2, dIKeys, dNewT, dSetT, dLstRg, dPar3, dLamA, dLamB, gdName, gdTup, gdCons, gdNil, dstart, dwipe, dAug, rdInt, rdSub, rdLt, rdLe, rdGt, rdGe, rdFdiv, rdMod, rdPow, at0, at1, at2, i30, i31, i32, set0, set1, set2, MO.lst.injEq, gup_same, gup_gup, ad_ii, ad_ss, ad_tt, ad_ll, mu_ii, mu_li, mu_ti, ix_t, ix_l, ix_s, ix_r, ix_w, ln_t, ln_l, ln_s, ln_w, ln_r, sr_t, sr_l, sr_s, sr_r, sl_t, sl_l, sl_s, sl_r, sl_w, tu_t, tu_l, tu_r, li_t, li_l, li_r, lm_t, lm_l, mx2, mn2, ab1, in1, is2, rdIsB, rdNotB, rdIsN, rdNotN, TD.isNon, List.map_cons, List.map_nil, List.length_cons, List.length_nil, List.replicate_succ, List.replicate_zero, List.cons_append, List.nil_append, List.append_nil, Nat.zero_add, Nat.reduceAdd, Nat.reduceSub, Nat.sub_self, Nat.add_sub_cancel, List.getElem?_cons_zero, List.getElem?_cons_succ, List.getElem?_nil, List.set_cons_zero, List.set_cons_succ, List.set_nil, Option.some.injEq, D.int.injEq, D.bl.injEq, D.str.injEq, D.ref.injEq, D.ty.injEq, D.tup.injEq, D.lst.injEq, List.cons.injEq, and_true, true_and, ex_two, ex_two', exists_eq_left', exists_eq_left, exists_and_left, exists_and_right, exists_const, exists_eq_right, exists_eq_right', Bool.not_true, Bool.not_false, if_true, if_false, Bool.false_eq_true, reduceCtorEq, false_and, and_false, decide_true, decide_false]
        refine roll_of u4.2 (by omega) (by omega) (by omega) fun r4 G5 hr4 u5 => ?_
        refine ⟨sz _ (by omega), pick_of u5.2 (by omega) (by show 0 < 3; decide) (by show 3 < 1000000; decide) fun z hz G6 u6 => ?_⟩
        obtain ⟨v, rfl, v0, v1⟩ : ∃ v : Int, z = .int v ∧ 0 ≤ v ∧ v ≤ 49 := by
          simp only [List.mem_cons, List.not_mem_nil, or_false] at hz
          rcases hz with rfl | rfl | rfl
          · exact ⟨_, rfl, by omega, by omega⟩
          · exact ⟨_, rfl, by omega, by omega⟩
          · exact ⟨_, rfl, by omega, by omega⟩
        try simp only [dRet, dRetN, dSeq, dAsg, dDrop, dIfS, dNext, dBreak, dCont, dPar, dSetL, dSetD, dFor, dVar, dC, dOp, dAndV, dOrV, dNotV, dAnd, dOr, dNot, dIf, dTest, dChain, dNil, dCons, dTup, dLst, dLstM, dStar, dNeg, dCB, dCall, dCallK, dMthT, dMth0, dLc, dYes, dISeq, dIStr, dIEnum, dIZip, dIRng1, dIRng2, dSl, dPart, dNoPart, dRaise, dDisp1, dNewD, dRevL, dRevT, dSortSet, dSortSetL, dIRng3, dGet2, dIKeys, dNewT, dSetT, dLstRg, dPar3, dLamA, dLamB, gdName, gdTup, gdCons, gdNil, dstart, dwipe, dAug, rdInt, rdSub, rdLt, rdLe, rdGt, rdGe, rdFdiv, rdMod, rdPow, at0, at1, at2, i30, i31, i32, set0, set1, set2, MO.lst.injEq, gup_same, gup_gup, ad_ii, ad_ss, ad_tt, ad_ll, mu_ii, mu_li, mu_ti, ix_t, ix_l, ix_s, ix_r, ix_w, ln_t, ln_l, ln_s, ln_w, ln_r, sr_t, sr_l, sr_s, sr_r, sl_t, sl_l, sl_s, sl_r, sl_w, tu_t, tu_l, tu_r, li_t, li_l, li_r, lm_t, lm_l, mx2, mn2, ab1, in1, is2, rdIsB, rdNotB, rdIsN, rdNotN, TD.isNon, List.map_cons, List.map_nil, List.length_cons, List.length_nil, List.replicate_succ, List.replicate_zero, List.cons_append, List.nil_append, List.append_nil, Nat.zero_add, Nat.reduceAdd, Nat.reduceSub, Nat.sub_self, Nat.add_sub_cancel, List.getElem?_cons_zero, List.getElem?_cons_succ, List.getElem?_nil, List.set_cons_zero, List.set_cons_succ, List.set_nil, Option.some.injEq, D.int.injEq, D.bl.injEq, D.str.injEq, D.ref.injEq, D.ty.injEq, D.tup.injEq, D.lst.injEq, List.cons.injEq, and_true, true_and, ex_two, ex_two', exists_eq_left', exists_eq_left, exists_and_left, exists_and_right, exists_const, exists_eq_right, exists_eq_right', Bool.not_true, Bool.not_false, if_true, if_false, Bool.false_eq_true, reduceCtorEq, false_and, and_false, decide_true, decide_false]
        repeat refine and_sz (by omega) ?_
        refine hK _ _ ⟨ax ++ [(pl, 1 + v)], by rw [List.map_append]; rfl, by rw [List.map_append, hax, List.take_succ, hpl]; rfl, by omega, fun x hx => ?_, ((u4.trans u5).trans u6).mono (by omega)⟩
        rcases List.mem_append.mp hx with hx | hx
        · exact hb2 x hx
        · rw [List.mem_singleton.mp hx]; exact ⟨by show 1 ≤ 1 + v; omega, by show 1 + v ≤ 50; omega⟩
      · obtain ⟨ax, rfl, hax, hil, hb2, u4⟩ := hI
        rw [List.length_map, Nat.zero_add, List.take_length] at hax
        rw [List.length_map, Nat.zero_add] at u4
        try simp only [dRet, dRetN, dSeq, dAsg, dDrop, dIfS, dNext, dBreak, dCont, dPar, dSetL, dSetD, dFor, dVar, dC, dOp, dAndV, dOrV, dNotV, dAnd, dOr, dNot, dIf, dTest, dChain, dNil, dCons, dTup, dLst, dLstM, dStar, dNeg, dCB, dCall, dCallK, dMthT, dMth0, dLc, dYes, dISeq, dIStr, dIEnum, dIZip, dIRng1, dIRng2, dSl, dPart, dNoPart, dRaise, dDisp1, dNewD, dRevL, dRevT, dSortSet, dSortSetL, dIRng3, dGet2, dIKeys, dNewT, dSetT, dLstRg, dPar3, dLamA, dLamB, gdName, gdTup, gdCons, gdNil, dstart, dwipe, dAug, rdInt, rdSub, rdLt, rdLe, rdGt, rdGe, rdFdiv, rdMod, rdPow, at0, at1, at2, i30, i31, i32, set0, set1, set2, MO.lst.injEq, gup_same, gup_gup, ad_ii, ad_ss, ad_tt, ad_ll, mu_ii, mu_li, mu_ti, ix_t, ix_l, ix_s, ix_r, ix_w, ln_t, ln_l, ln_s, ln_w, ln_r, sr_t, sr_l, sr_s, sr_r, sl_t, sl_l, sl_s, sl_r, sl_w, tu_t, tu_l, tu_r, li_t, li_l, li_r, lm_t, lm_l, mx2, mn2, ab1, in1, is2, rdIsB, rdNotB, rdIsN, rdNotN, TD.isNon, List.map_cons, List.map_nil, List.length_cons, List.length_nil, List.replicate_succ, List.replicate_zero, List.cons_append, List.nil_append, List.append_nil, Nat.zero_add, Nat.reduceAdd, Nat.reduceSub, Nat.sub_self, Nat.add_sub_cancel, List.getElem?_cons_zero, List.getElem?_cons_succ, List.getElem?_nil, List.set_cons_zero, List.set_cons_succ, List.set_nil, Option.some.injEq, D.int.injEq, D.bl.injEq, D.str.injEq, D.ref.injEq, D.ty.injEq, D.tup.injEq, D.lst.injEq, List.cons.injEq, and_true, true_and, ex_two, ex_two', exists_eq_left', exists_eq_left, exists_and_left, exists_and_right, exists_const, exists_eq_right, exists_eq_right', Bool.not_true, Bool.not_false, if_true, if_false, Bool.false_eq_true, reduceCtorEq, false_and, and_false, decide_true, decide_false]
        repeat refine and_sz (by omega) ?_
        have lax : ax.length = ms.length := by rw [← hax, List.length_map]
        refine q ⟨len, ax⟩ G4 ⟨by show 1 ≤ len; omega, by show len ≤ 30; omega, by show 1 ≤ ax.length; omega, by show ax.length ≤ 5; omega, fun x hx => ?_, ?_⟩ (by show len ≤ far; omega) (u4.mono (by omega))
        · have h1 := mb x.1 (by rw [← hax]; exact List.mem_map_of_mem hx)
          have h2 := hb2 x hx
          exact ⟨h1.1, h1.2, h2.1, h2.2⟩
        · show asc (ax.map (·.1)) = true
          rw [hax]
          exact pw_asc hp
  · exact h.elim
end K06
namespace K06
open PySem L2 TD
/-- a convoy, and a front that may stand behind it -/
def Cs (ts : Trucks) (gap f : Int) (c : Convoy) (n : Int) : Prop := ∀ r, Cv ts gap n r → Cv ts gap f (c ++ r)
theorem Cs.nil {ts : Trucks} {gap f n : Int} (h : f ≤ n) : Cs ts gap f [] n := fun r hr => hr.le h
theorem Cs.snoc {ts : Trucks} {gap f n n' : Int} {c : Convoy} {i : Nat} (h : Cs ts gap f c n) (hi : i < ts.length) (hn : n + (tOf ts i).len + gap ≤ n') : Cs ts gap f (c ++ [(i, n)]) n' := fun r hr => by
  rw [List.append_assoc]
  exact h _ (.cons (Int.le_refl _) hi (hr.le hn))
theorem Cs.up {ts : Trucks} {gap f n n' : Int} {c : Convoy} (h : Cs ts gap f c n) (hn : n ≤ n') : Cs ts gap f c n' := fun r hr => h r (hr.le hn)
theorem Cs.cv {ts : Trucks} {gap f n : Int} {c : Convoy} (h : Cs ts gap f c n) : Cv ts gap f c := by
  have := h [] .nil
  rwa [List.append_nil] at this
def sp__law_drawn (A : Ad) : SpD := fun zs G Q _ => match zs with
  | [.ref a, v, .int gap] => ∃ m ts, v = trsD ts ∧ WTs ts ∧ 1 ≤ gap ∧ gap ≤ 20 ∧ Dc G a m ∧ m ≤ 500000 ∧ ∀ c G', Cv ts gap (-30) c → c.length ≤ 12 → (∀ p ∈ c, p.1 < ts.length ∧ -30 ≤ p.2 ∧ p.2 ≤ 200) → Upd a (m + 50) G G' → Q (frsD c) G'
  | _ => False
theorem len__law_drawn {A : Ad} {zs : List D} {G : GH} {Q : DK} {x : XD} (h : sp__law_drawn A zs G Q x) : zs.length = 3 := by
  unfold sp__law_drawn at h
  split at h <;> first | rfl | exact h.elim
def ds__law_drawn (A : Ad) : DS := dSeq (dPar 3 4 (dLstM dNil) (dOp rdSub (dCall (sp__law_roll A) (dCons (dVar 0) (dCons (dC (.int 60)) dNil))) (dC (.int 30)))) (dSeq (dFor (dIRng1 (dCons (dC (.int 12)) dNil)) (gdName 5) (dSeq (dAsg (dCall (sp__law_roll A) (dCons (dVar 0) (dCons (dCB rdLen (dCons (dVar 1) dNil)) dNil))) (gdName 6)) (dSeq (dIfS (dTest (dOp rdLe (dVar 4) (dC (.int 200)))) (dDrop (dMthT "list" rdAppend (dVar 3) (dCons (dTup (dCons (dVar 6) (dCons (dVar 4) dNil))) dNil))) dNext) (dAsg (dOp rdAdd (dOp rdAdd (dOp rdAdd (dVar 4) (dOp rdIx (dOp rdIx (dVar 1) (dVar 6)) (dC (.int 0)))) (dVar 2)) (dCall (sp__law_pick A) (dCons (dVar 0) (dCons (dLst (dCons (dC (.int 0)) (dCons (dC (.int 0)) (dCons (dC (.int 1)) (dCons (dCall (sp__law_roll A) (dCons (dVar 0) (dCons (dC (.int 6)) dNil))) dNil))))) dNil)))) (gdName 4))))) (dRet (dCB rdTuple (dCons (dVar 3) dNil))))
def N__law_drawn : List PySem.Str := ["dice", "trucks", "gap", "found", "front", "turn", "at"]
theorem upd_gupn {a p : Addr} {m : Nat} {μ : MO} {G G1 : GH} (h : Upd a m G G1) (hp : G p = none) (hne : a ≠ p) : Upd a m G (gup G1 p μ) := by
  refine ⟨fun b ν hb hg => ?_, ?_⟩
  · rw [gup_ne (fun z => by rw [z, hp] at hg; cases hg)]
    exact h.1 b ν hb hg
  · obtain ⟨l, g, d⟩ := h.2
    exact ⟨l, by rw [gup_ne hne]; exact g, d⟩
theorem read__law_drawn {A : Ad} {zs : List D} {G : GH} {Q : DK} {x : XD} (h : sp__law_drawn A zs G Q x) : ds__law_drawn A { nx := fun _ G' => Q .non G', rt := Q, xx := fun _ => x } (dstart N__law_drawn zs) G := by
  unfold sp__law_drawn at h
  split at h
  · rename_i a v gap
    obtain ⟨m, ts, rfl, w, g1, g2, hc, hm, q⟩ := h
    have n1 := w.n1
    have n4 := w.n4
    unfold N__law_drawn ds__law_drawn
    simp only [dRet, dRetN, dSeq, dAsg, dDrop, dIfS, dNext, dBreak, dCont, dPar, dSetL, dSetD, dFor, dVar, dC, dOp, dAndV, dOrV, dNotV, dAnd, dOr, dNot, dIf, dTest, dChain, dNil, dCons, dTup, dLst, dLstM, dStar, dNeg, dCB, dCall, dCallK, dMthT, dMth0, dLc, dYes, dISeq, dIStr, dIEnum, dIZip, dIRng1, dIRng2, dSl, dPart, dNoPart, dRaise, dDisp1, dNewD, dRevL, dRevT, dSortSet, dSortSetL, dIRng3, dGet2, dIKeys, dNewT, dSetT, dLstRg, dPar3, dLamA, dLamB, gdName, gdTup, gdCons, gdNil, dstart, dwipe, dAug, rdInt, rdSub, rdLt, rdLe, rdGt, rdGe, rdFdiv, rdMod, rdPow, at0, at1, at2, i30, i31, i32, set0, set1, set2, MO.lst.injEq, gup_same, gup_gup, ad_ii, ad_ss, ad_tt, ad_ll, mu_ii, mu_li, mu_ti, ix_t, ix_l, ix_s, ix_r, ix_w, ln_t, ln_l, ln_s, ln_w, ln_r, sr_t, sr_l, sr_s, sr_r, sl_t, sl_l, sl_s, sl_r, sl_w, tu_t, tu_l, tu_r, li_t, li_l, li_r, lm_t, lm_l, mx2, mn2, ab1, in1, is2, rdIsB, rdNotB, rdIsN, rdNotN, TD.isNon, List.map_cons, List.map_nil, List.length_cons, List.length_nil, List.replicate_succ, List.replicate_zero, List.cons_append, List.nil_append, List.append_nil, Nat.zero_add, Nat.reduceAdd, Nat.reduceSub, Nat.sub_self, Nat.add_sub_cancel, List.getElem?_cons_zero, List.getElem?_cons_succ, List.getElem?_nil, List.set_cons_zero, List.set_cons_succ, List.set_nil, Option.some.injEq, D.int.injEq, D.bl.injEq, D.str.injEq, D.ref.injEq, D.ty.injEq, D.tup.injEq, D.lst.injEq, List.cons.injEq, and_true, true_and, ex_two, ex_two', exists_eq_left', exists_eq_left, exists_and_left, exists_and_right, exists_const, exists_eq_right, exists_eq_right', Bool.not_true, Bool.not_false, if_true, if_false, Bool.false_eq_true, reduceCtorEq, false_and, and_false, decide_true, decide_false]
    refine ⟨sz _ (by omega), fun p hp => ?_⟩
    have hap : a ≠ p := fun z => by
      obtain ⟨l, g, _⟩ := hc
      rw [z, hp] at g
      cases g
    have u0 : Upd a m G (gup G p (.lst [])) := upd_gupn (Upd.refl hc) hp hap
    refine roll_of u0.2 (by omega) (by omega) (by omega) fun r G1 hr u1 => ?_
    try simp only [dRet, dRetN, dSeq, dAsg, dDrop, dIfS, dNext, dBreak, dCont, dPar, dSetL, dSetD, dFor, dVar, dC, dOp, dAndV, dOrV, dNotV, dAnd, dOr, dNot, dIf, dTest, dChain, dNil, dCons, dTup, dLst, dLstM, dStar, dNeg, dCB, dCall, dCallK, dMthT, dMth0, dLc, dYes, dISeq, dIStr, dIEnum, dIZip, dIRng1, dIRng2, dSl, dPart, dNoPart, dRaise, dDisp1, dNewD, dRevL, dRevT, dSortSet, dSortSetL, dIRng3, dGet2, dIKeys, dNewT, dSetT, dLstRg, dPar3, dLamA, dLamB, gdName, gdTup, gdCons, gdNil, dstart, dwipe, dAug, rdInt, rdSub, rdLt, rdLe, rdGt, rdGe, rdFdiv, rdMod, rdPow, at0, at1, at2, i30, i31, i32, set0, set1, set2, MO.lst.injEq, gup_same, gup_gup, ad_ii, ad_ss, ad_tt, ad_ll, mu_ii, mu_li, mu_ti, ix_t, ix_l, ix_s, ix_r, ix_w, ln_t, ln_l, ln_s, ln_w, ln_r, sr_t, sr_l, sr_s, sr_r, sl_t, sl_l, sl_s, sl_r, sl_w, tu_t, tu_l, tu_r, li_t, li_l, li_r, lm_t, lm_l, mx2, mn2, ab1, in1, is2, rdIsB, rdNotB, rdIsN, rdNotN, TD.isNon, List.map_cons, List.map_nil, List.length_cons, List.length_nil, List.replicate_succ, List.replicate_zero, List.cons_append, List.nil_append, List.append_nil, Nat.zero_add, Nat.reduceAdd, Nat.reduceSub, Nat.sub_self, Nat.add_sub_cancel, List.getElem?_cons_zero, List.getElem?_cons_succ, List.getElem?_nil, List.set_cons_zero, List.set_cons_succ, List.set_nil, Option.some.injEq, D.int.injEq, D.bl.injEq, D.str.injEq, D.ref.injEq, D.ty.injEq, D.tup.injEq, D.lst.injEq, List.cons.injEq, and_true, true_and, ex_two, ex_two', exists_eq_left', exists_eq_left, exists_and_left, exists_and_right, exists_const, exists_eq_right, exists_eq_right', Bool.not_true, Bool.not_false, if_true, if_false, Bool.false_eq_true, reduceCtorEq, false_and, and_false, decide_true, decide_false]
    refine ⟨by omega, sz _ (by decide), ?_⟩
    have en : (12 : Int).toNat = 12 := rfl
    rw [en]
    refine dLoop_inv (fun k ρ G' => ∃ front o5 o6 c, ρ = [some (.ref a), some (trsD ts), some (.int gap), some (.ref p), some (.int front), o5, o6] ∧ G' p = some (.lst (c.map frD)) ∧ Cs ts gap (-30) c front ∧ -30 ≤ front ∧ c.length ≤ k ∧ (∀ p ∈ c, p.1 < ts.length ∧ -30 ≤ p.2 ∧ p.2 ≤ 200) ∧ Upd a (m + 1 + 3 * k) G G') 0
      ⟨_, none, none, [], rfl, u1.1 p _ (Ne.symm hap) gup_same, Cs.nil (by omega), by omega, Nat.le_refl _, fun p hp => (List.not_mem_nil hp).elim, u0.trans u1⟩ (fun _ _ _ _ _ _ => trivial) (fun k dd ρ G2 hi hI K1 hK => ?_) (fun ρ G2 hI => ?_)
    · obtain ⟨front, o5, o6, c, rfl, gp, hcs, hf, hl, hb, u⟩ := hI
      obtain ⟨hk1, rfl⟩ := rngD_get hi
      rw [Nat.zero_add] at *
      unfold trsD
      simp only [dRet, dRetN, dSeq, dAsg, dDrop, dIfS, dNext, dBreak, dCont, dPar, dSetL, dSetD, dFor, dVar, dC, dOp, dAndV, dOrV, dNotV, dAnd, dOr, dNot, dIf, dTest, dChain, dNil, dCons, dTup, dLst, dLstM, dStar, dNeg, dCB, dCall, dCallK, dMthT, dMth0, dLc, dYes, dISeq, dIStr, dIEnum, dIZip, dIRng1, dIRng2, dSl, dPart, dNoPart, dRaise, dDisp1, dNewD, dRevL, dRevT, dSortSet, dSortSetL, dIRng3, dGet2, dIKeys, dNewT, dSetT, dLstRg, dPar3, dLamA, dLamB, gdName, gdTup, gdCons, gdNil, dstart, dwipe, dAug, rdInt, rdSub, rdLt, rdLe, rdGt, rdGe, rdFdiv, rdMod, rdPow, at0, at1, at2, i30, i31, i32, set0, set1, set2, MO.lst.injEq, gup_same, gup_gup, ad_ii, ad_ss, ad_tt, ad_ll, mu_ii, mu_li, mu_ti, ix_t, ix_l, ix_s, ix_r, ix_w, ln_t, ln_l, ln_s, ln_w, ln_r, sr_t, sr_l, sr_s, sr_r, sl_t, sl_l, sl_s, sl_r, sl_w, tu_t, tu_l, tu_r, li_t, li_l, li_r, lm_t, lm_l, mx2, mn2, ab1, in1, is2, rdIsB, rdNotB, rdIsN, rdNotN, TD.isNon, List.map_cons, List.map_nil, List.length_cons, List.length_nil, List.replicate_succ, List.replicate_zero, List.cons_append, List.nil_append, List.append_nil, Nat.zero_add, Nat.reduceAdd, Nat.reduceSub, Nat.sub_self, Nat.add_sub_cancel, List.getElem?_cons_zero, List.getElem?_cons_succ, List.getElem?_nil, List.set_cons_zero, List.set_cons_succ, List.set_nil, Option.some.injEq, D.int.injEq, D.bl.injEq, D.str.injEq, D.ref.injEq, D.ty.injEq, D.tup.injEq, D.lst.injEq, List.cons.injEq, and_true, true_and, ex_two, ex_two', exists_eq_left', exists_eq_left, exists_and_left, exists_and_right, exists_const, exists_eq_right, exists_eq_right', Bool.not_true, Bool.not_false, if_true, if_false, Bool.false_eq_true, reduceCtorEq, false_and, and_false, decide_true, decide_false, List.length_map]
      refine roll_of u.2 (by omega) (by omega) (by omega) fun i G3 hi3 u3 => ?_
      have hin : i < ts.length := by omega
      have gp3 := u3.1 p _ (Ne.symm hap) gp
      have hlen := (w.tr hin).l1
      have etr : trD (tOf ts i) = .tup [.int (tOf ts i).len, .tup ((tOf ts i).ax.map axD)] := rfl
      have fin : ∀ (c' : Convoy) (G4 : GH), G4 p = some (.lst (c'.map frD)) → (∀ n', front + (tOf ts i).len + gap ≤ n' → Cs ts gap (-30) c' n') → c'.length ≤ k + 1 → (∀ p ∈ c', p.1 < ts.length ∧ -30 ≤ p.2 ∧ p.2 ≤ 200) → Upd a (m + 1 + 3 * k + 1) G G4 →
          (dAsg (dOp rdAdd (dOp rdAdd (dOp rdAdd (dVar 4) (dOp rdIx (dOp rdIx (dVar 1) (dVar 6)) (dC (.int 0)))) (dVar 2)) (dCall (sp__law_pick A) (dCons (dVar 0) (dCons (dLst (dCons (dC (.int 0)) (dCons (dC (.int 0)) (dCons (dC (.int 1)) (dCons (dCall (sp__law_roll A) (dCons (dVar 0) (dCons (dC (.int 6)) dNil))) dNil))))) dNil)))) (gdName 4))
            { nx := K1, rt := Q, bk := fun ρ G => rdTuple [.ref p] G Q, ct := K1, xx := fun _ => x } [some (.ref a), some (.tup (ts.map trD)), some (.int gap), some (.ref p), some (.int front), some (.int (0 + (k : Int))), some (.int (i : Int))] G4 := fun c' G4 g4 hc4 hl4 hb4 u4 => by
        simp only [dRet, dRetN, dSeq, dAsg, dDrop, dIfS, dNext, dBreak, dCont, dPar, dSetL, dSetD, dFor, dVar, dC, dOp, dAndV, dOrV, dNotV, dAnd, dOr, dNot, dIf, dTest, dChain, dNil, dCons, dTup, dLst, dLstM, dStar, dNeg, dCB, dCall, dCallK, dMthT, dMth0, dLc, dYes, dISeq, dIStr, dIEnum, dIZip, dIRng1, dIRng2, dSl, dPart, dNoPart, dRaise, dDisp1, dNewD, dRevL, dRevT, dSortSet, dSortSetL, dIRng3, dGet2, dIKeys, dNewT, dSetT, dLstRg, dPar3, dLamA, dLamB, gdName, gdTup, gdCons, gdNil, dstart, dwipe, dAug, rdInt, rdSub, rdLt, rdLe, rdGt, rdGe, rdFdiv, rdMod, rdPow, at0, at1, at2, i30, i31, i32, set0, set1, set2, MO.lst.injEq, gup_same, gup_gup, ad_ii, ad_ss, ad_tt, ad_ll, mu_ii, mu_li, mu_ti, ix_t, ix_l, ix_s, ix_r, ix_w, ln_t, ln_l, ln_s, ln_w, ln_r, sr_t, sr_l, sr_s, sr_r, sl_t, sl_l, sl_s, sl_r, sl_w, tu_t, tu_l, tu_r, li_t, li_l, li_r, lm_t, lm_l, mx2, mn2, ab1, in1, is2, rdIsB, rdNotB, rdIsN, rdNotN, TD.isNon, List.map_cons, List.map_nil, List.length_cons, List.length_nil, List.replicate_succ, List.replicate_zero, List.cons_append, List.nil_append, List.append_nil, Nat.zero_add, Nat.reduceAdd, Nat.reduceSub, Nat.sub_self, Nat.add_sub_cancel, List.getElem?_cons_zero, List.getElem?_cons_succ, List.getElem?_nil, List.set_cons_zero, List.set_cons_succ, List.set_nil, Option.some.injEq, D.int.injEq, D.bl.injEq, D.str.injEq, D.ref.injEq, D.ty.injEq, D.tup.injEq, D.lst.injEq, List.cons.injEq, and_true, true_and, ex_two, ex_two', exists_eq_left', exists_eq_left, exists_and_left, exists_and_right, exists_const, exists_eq_right, exists_eq_right', Bool.not_true, Bool.not_false, if_true, if_false, Bool.false_eq_true, reduceCtorEq, false_and, and_false, decide_true, decide_false]
        refine ⟨_, tOf_at hin, ?_⟩
        rw [etr]
        simp only [dRet, dRetN, dSeq, dAsg, dDrop, dIfS, dNext, dBreak, dCont, dPar, dSetL, dSetD, dFor, dVar, dC, dOp, dAndV, dOrV, dNotV, dAnd, dOr, dNot, dIf, dTest, dChain, dNil, dCons, dTup, dLst, dLstM, dStar, dNeg, dCB, dCall, dCallK, dMthT, dMth0, dLc, dYes, dISeq, dIStr, dIEnum, dIZip, dIRng1, dIRng2, dSl, dPart, dNoPart, dRaise, dDisp1, dNewD, dRevL, dRevT, dSortSet, dSortSetL, dIRng3, dGet2, dIKeys, dNewT, dSetT, dLstRg, dPar3, dLamA, dLamB, gdName, gdTup, gdCons, gdNil, dstart, dwipe, dAug, rdInt, rdSub, rdLt, rdLe, rdGt, rdGe, rdFdiv, rdMod, rdPow, at0, at1, at2, i30, i31, i32, set0, set1, set2, MO.lst.injEq, gup_same, gup_gup, ad_ii, ad_ss, ad_tt, ad_ll, mu_ii, mu_li, mu_ti, ix_t, ix_l, ix_s, ix_r, ix_w, ln_t, ln_l, ln_s, ln_w, ln_r, sr_t, sr_l, sr_s, sr_r, sl_t, sl_l, sl_s, sl_r, sl_w, tu_t, tu_l, tu_r, li_t, li_l, li_r, lm_t, lm_l, mx2, mn2, ab1, in1, is2, rdIsB, rdNotB, rdIsN, rdNotN, TD.isNon, List.map_cons, List.map_nil, List.length_cons, List.length_nil, List.replicate_succ, List.replicate_zero, List.cons_append, List.nil_append, List.append_nil, Nat.zero_add, Nat.reduceAdd, Nat.reduceSub, Nat.sub_self, Nat.add_sub_cancel, List.getElem?_cons_zero, List.getElem?_cons_succ, List.getElem?_nil, List.set_cons_zero, List.set_cons_succ, List.set_nil, Option.some.injEq, D.int.injEq, D.bl.injEq, D.str.injEq, D.ref.injEq, D.ty.injEq, D.tup.injEq, D.lst.injEq, List.cons.injEq, and_true, true_and, ex_two, ex_two', exists_eq_left', exists_eq_left, exists_and_left, exists_and_right, exists_const, exists_eq_right, exists_eq_right', Bool.not_true, Bool.not_false, if_true, if_false, Bool.false_eq_true, reduceCtorEq, false_and, and_false, decide_true, decide_false]
        refine roll_of u4.2 (by omega) (by omega) (by omega) fun r5 G5 hr5 u5 => ?_
        refine ⟨sz _ (by omega), pick_of u5.2 (by omega) (by show 0 < 4; decide) (by show 4 < 1000000; decide) fun z hz G6 u6 => ?_⟩
        obtain ⟨v, rfl, v0⟩ : ∃ v : Int, z = .int v ∧ 0 ≤ v := by
          simp only [List.mem_cons, List.not_mem_nil, or_false] at hz
          rcases hz with rfl | rfl | rfl | rfl
          · exact ⟨_, rfl, by omega⟩
          · exact ⟨_, rfl, by omega⟩
          · exact ⟨_, rfl, by omega⟩
          · exact ⟨_, rfl, by omega⟩
        simp only [dRet, dRetN, dSeq, dAsg, dDrop, dIfS, dNext, dBreak, dCont, dPar, dSetL, dSetD, dFor, dVar, dC, dOp, dAndV, dOrV, dNotV, dAnd, dOr, dNot, dIf, dTest, dChain, dNil, dCons, dTup, dLst, dLstM, dStar, dNeg, dCB, dCall, dCallK, dMthT, dMth0, dLc, dYes, dISeq, dIStr, dIEnum, dIZip, dIRng1, dIRng2, dSl, dPart, dNoPart, dRaise, dDisp1, dNewD, dRevL, dRevT, dSortSet, dSortSetL, dIRng3, dGet2, dIKeys, dNewT, dSetT, dLstRg, dPar3, dLamA, dLamB, gdName, gdTup, gdCons, gdNil, dstart, dwipe, dAug, rdInt, rdSub, rdLt, rdLe, rdGt, rdGe, rdFdiv, rdMod, rdPow, at0, at1, at2, i30, i31, i32, set0, set1, set2, MO.lst.injEq, gup_same, gup_gup, ad_ii, ad_ss, ad_tt, ad_ll, mu_ii, mu_li, mu_ti, ix_t, ix_l, ix_s, ix_r, ix_w, ln_t, ln_l, ln_s, ln_w, ln_r, sr_t, sr_l, sr_s, sr_r, sl_t, sl_l, sl_s, sl_r, sl_w, tu_t, tu_l, tu_r, li_t, li_l, li_r, lm_t, lm_l, mx2, mn2, ab1, in1, is2, rdIsB, rdNotB, rdIsN, rdNotN, TD.isNon, List.map_cons, List.map_nil, List.length_cons, List.length_nil, List.replicate_succ, List.replicate_zero, List.cons_append, List.nil_append, List.append_nil, Nat.zero_add, Nat.reduceAdd, Nat.reduceSub, Nat.sub_self, Nat.add_sub_cancel, List.getElem?_cons_zero, List.getElem?_cons_succ, List.getElem?_nil, List.set_cons_zero, List.set_cons_succ, List.set_nil, Option.some.injEq, D.int.injEq, D.bl.injEq, D.str.injEq, D.ref.injEq, D.ty.injEq, D.tup.injEq, D.lst.injEq, List.cons.injEq, and_true, true_and, ex_two, ex_two', exists_eq_left', exists_eq_left, exists_and_left, exists_and_right, exists_const, exists_eq_right, exists_eq_right', Bool.not_true, Bool.not_false, if_true, if_false, Bool.false_eq_true, reduceCtorEq, false_and, and_false, decide_true, decide_false]
        exact hK _ _ ⟨_, _, _, c', rfl, u6.1 p _ (Ne.symm hap) (u5.1 p _ (Ne.symm hap) g4), hc4 _ (by omega), by omega, hl4, hb4, ((u4.trans u5).trans u6).mono (by omega)⟩
      by_cases hc200 : front ≤ 200
      · simp only [hc200, decide_true, if_true]
        refine ⟨?_, ?_⟩
        · exact .inl ⟨rfl, _, gp3⟩
        · refine and_sz (by omega) ?_
          refine ⟨p, c.map frD, .tup [.int (i : Int), .int front], rfl, rfl, gp3, Nat.lt_of_lt_of_le (by rw [List.length_map]; exact Nat.lt_succ_of_le hl) (sz (k + 1) (by omega)), ?_⟩
          have f2 := fin (c ++ [(i, front)]) (gup G3 p (.lst (c.map frD ++ [.tup [.int (i : Int), .int front]]))) (by rw [List.map_append]; exact gup_same) (fun n' hn => hcs.snoc hin hn) (by rw [List.length_append]; exact Nat.succ_le_succ hl) (fun r hr => by
            rcases List.mem_append.mp hr with hr | hr
            · exact hb r hr
            · rw [List.mem_singleton.mp hr]; exact ⟨hin, hf, hc200⟩) ((upd_gupn ((u.trans u3).mono (by omega)) hp hap).mono (Nat.le_refl _))
          simp only [dRet, dRetN, dSeq, dAsg, dDrop, dIfS, dNext, dBreak, dCont, dPar, dSetL, dSetD, dFor, dVar, dC, dOp, dAndV, dOrV, dNotV, dAnd, dOr, dNot, dIf, dTest, dChain, dNil, dCons, dTup, dLst, dLstM, dStar, dNeg, dCB, dCall, dCallK, dMthT, dMth0, dLc, dYes, dISeq, dIStr, dIEnum, dIZip, dIRng1, dIRng2, dSl, dPart, dNoPart, dRaise, dDisp1, dNewD, dRevL, dRevT, dSortSet, dSortSetL, dIRng3, dGet2, dIKeys, dNewT, dSetT, dLstRg, dPar3, dLamA, dLamB, gdName, gdTup, gdCons, gdNil, dstart, dwipe, dAug, rdInt, rdSub, rdLt, rdLe, rdGt, rdGe, rdFdiv, rdMod, rdPow, at0, at1, at2, i30, i31, i32, set0, set1, set2, MO.lst.injEq, gup_same, gup_gup, ad_ii, ad_ss, ad_tt, ad_ll, mu_ii, mu_li, mu_ti, ix_t, ix_l, ix_s, ix_r, ix_w, ln_t, ln_l, ln_s, ln_w, ln_r, sr_t, sr_l, sr_s, sr_r, sl_t, sl_l, sl_s, sl_r, sl_w, tu_t, tu_l, tu_r, li_t, li_l, li_r, lm_t, lm_l, mx2, mn2, ab1, in1, is2, rdIsB, rdNotB, rdIsN, rdNotN, TD.isNon, List.map_cons, List.map_nil, List.length_cons, List.length_nil, List.replicate_succ, List.replicate_zero, List.cons_append, List.nil_append, List.append_nil, Nat.zero_add, Nat.reduceAdd, Nat.reduceSub, Nat.sub_self, Nat.add_sub_cancel, List.getElem?_cons_zero, List.getElem?_cons_succ, List.getElem?_nil, List.set_cons_zero, List.set_cons_succ, List.set_nil, Option.some.injEq, D.int.injEq, D.bl.injEq, D.str.injEq, D.ref.injEq, D.ty.injEq, D.tup.injEq, D.lst.injEq, List.cons.injEq, and_true, true_and, ex_two, ex_two', exists_eq_left', exists_eq_left, exists_and_left, exists_and_right, exists_const, exists_eq_right, exists_eq_right', Bool.not_true, Bool.not_false, if_true, if_false, Bool.false_eq_true, reduceCtorEq, false_and, and_false, decide_true, decide_false] at f2
          try simp only [dRet, dRetN, dSeq, dAsg, dDrop, dIfS, dNext, dBreak, dCont, dPar, dSetL, dSetD, dFor, dVar, dC, dOp, dAndV, dOrV, dNotV, dAnd, dOr, dNot, dIf, dTest, dChain, dNil, dCons, dTup, dLst, dLstM, dStar, dNeg, dCB, dCall, dCallK, dMthT, dMth0, dLc, dYes, dISeq, dIStr, dIEnum, dIZip, dIRng1, dIRng2, dSl, dPart, dNoPart, dRaise, dDisp1, dNewD, dRevL, dRevT, dSortSet, dSortSetL, dIRng3, dGet2, dIKeys, dNewT, dSetT, dLstRg, dPar3, dLamA, dLamB, gdName, gdTup, gdCons, gdNil, dstart, dwipe, dAug, rdInt, rdSub, rdLt, rdLe, rdGt, rdGe, rdFdiv, rdMod, rdPow, at0, at1, at2, i30, i31, i32, set0, set1, set2, MO.lst.injEq, gup_same, gup_gup, ad_ii, ad_ss, ad_tt, ad_ll, mu_ii, mu_li, mu_ti, ix_t, ix_l, ix_s, ix_r, ix_w, ln_t, ln_l, ln_s, ln_w, ln_r, sr_t, sr_l, sr_s, sr_r, sl_t, sl_l, sl_s, sl_r, sl_w, tu_t, tu_l, tu_r, li_t, li_l, li_r, lm_t, lm_l, mx2, mn2, ab1, in1, is2, rdIsB, rdNotB, rdIsN, rdNotN, TD.isNon, List.map_cons, List.map_nil, List.length_cons, List.length_nil, List.replicate_succ, List.replicate_zero, List.cons_append, List.nil_append, List.append_nil, Nat.zero_add, Nat.reduceAdd, Nat.reduceSub, Nat.sub_self, Nat.add_sub_cancel, List.getElem?_cons_zero, List.getElem?_cons_succ, List.getElem?_nil, List.set_cons_zero, List.set_cons_succ, List.set_nil, Option.some.injEq, D.int.injEq, D.bl.injEq, D.str.injEq, D.ref.injEq, D.ty.injEq, D.tup.injEq, D.lst.injEq, List.cons.injEq, and_true, true_and, ex_two, ex_two', exists_eq_left', exists_eq_left, exists_and_left, exists_and_right, exists_const, exists_eq_right, exists_eq_right', Bool.not_true, Bool.not_false, if_true, if_false, Bool.false_eq_true, reduceCtorEq, false_and, and_false, decide_true, decide_false]
          exact f2
      · simp only [hc200, decide_false, Bool.false_eq_true, if_false]
        have f2 := fin c G3 gp3 (fun n' hn => hcs.up (by omega)) (by omega) hb ((u.trans u3).mono (by omega))
        simp only [dRet, dRetN, dSeq, dAsg, dDrop, dIfS, dNext, dBreak, dCont, dPar, dSetL, dSetD, dFor, dVar, dC, dOp, dAndV, dOrV, dNotV, dAnd, dOr, dNot, dIf, dTest, dChain, dNil, dCons, dTup, dLst, dLstM, dStar, dNeg, dCB, dCall, dCallK, dMthT, dMth0, dLc, dYes, dISeq, dIStr, dIEnum, dIZip, dIRng1, dIRng2, dSl, dPart, dNoPart, dRaise, dDisp1, dNewD, dRevL, dRevT, dSortSet, dSortSetL, dIRng3, dGet2, dIKeys, dNewT, dSetT, dLstRg, dPar3, dLamA, dLamB, gdName, gdTup, gdCons, gdNil, dstart, dwipe, dAug, rdInt, rdSub, rdLt, rdLe, rdGt, rdGe, rdFdiv, rdMod, rdPow, at0, at1, at2, i30, i31, i32, set0, set1, set2, MO.lst.injEq, gup_same, gup_gup, ad_ii, ad_ss, ad_tt, ad_ll, mu_ii, mu_li, mu_ti, ix_t, ix_l, ix_s, ix_r, ix_w, ln_t, ln_l, ln_s, ln_w, ln_r, sr_t, sr_l, sr_s, sr_r, sl_t, sl_l, sl_s, sl_r, sl_w, tu_t, tu_l, tu_r, li_t, li_l, li_r, lm_t, lm_l, mx2, mn2, ab1, in1, is2, rdIsB, rdNotB, rdIsN, rdNotN, TD.isNon, List.map_cons, List.map_nil, List.length_cons, List.length_nil, List.replicate_succ, List.replicate_zero, List.cons_append, List.nil_append, List.append_nil, Nat.zero_add, Nat.reduceAdd, Nat.reduceSub, Nat.sub_self, Nat.add_sub_cancel, List.getElem?_cons_zero, List.getElem?_cons_succ, List.getElem?_nil, List.set_cons_zero, List.set_cons_succ, List.set_nil, Option.some.injEq, D.int.injEq, D.bl.injEq, D.str.injEq, D.ref.injEq, D.ty.injEq, D.tup.injEq, D.lst.injEq, List.cons.injEq, and_true, true_and, ex_two, ex_two', exists_eq_left', exists_eq_left, exists_and_left, exists_and_right, exists_const, exists_eq_right, exists_eq_right', Bool.not_true, Bool.not_false, if_true, if_false, Bool.false_eq_true, reduceCtorEq, false_and, and_false, decide_true, decide_false] at f2
        try simp only [dRet, dRetN, dSeq, dAsg, dDrop, dIfS, dNext, dBreak, dCont, dPar, dSetL, dSetD, dFor, dVar, dC, dOp, dAndV, dOrV, dNotV, dAnd, dOr, dNot, dIf, dTest, dChain, dNil, dCons, dTup, dLst, dLstM, dStar, dNeg, dCB, dCall, dCallK, dMthT, dMth0, dLc, dYes, dISeq, dIStr, dIEnum, dIZip, dIRng1, dIRng2, dSl, dPart, dNoPart, dRaise, dDisp1, dNewD, dRevL, dRevT, dSortSet, dSortSetL, dIRng3, dGet2, dIKeys, dNewT, dSetT, dLstRg, dPar3, dLamA, dLamB, gdName, gdTup, gdCons, gdNil, dstart, dwipe, dAug, rdInt, rdSub, rdLt, rdLe, rdGt, rdGe, rdFdiv, rdMod, rdPow, at0, at1, at2, i30, i31, i32, set0, set1, set2, MO.lst.injEq, gup_same, gup_gup, ad_ii, ad_ss, ad_tt, ad_ll, mu_ii, mu_li, mu_ti, ix_t, ix_l, ix_s, ix_r, ix_w, ln_t, ln_l, ln_s, ln_w, ln_r, sr_t, sr_l, sr_s, sr_r, sl_t, sl_l, sl_s, sl_r, sl_w, tu_t, tu_l, tu_r, li_t, li_l, li_r, lm_t, lm_l, mx2, mn2, ab1, in1, is2, rdIsB, rdNotB, rdIsN, rdNotN, TD.isNon, List.map_cons, List.map_nil, List.length_cons, List.length_nil, List.replicate_succ, List.replicate_zero, List.cons_append, List.nil_append, List.append_nil, Nat.zero_add, Nat.reduceAdd, Nat.reduceSub, Nat.sub_self, Nat.add_sub_cancel, List.getElem?_cons_zero, List.getElem?_cons_succ, List.getElem?_nil, List.set_cons_zero, List.set_cons_succ, List.set_nil, Option.some.injEq, D.int.injEq, D.bl.injEq, D.str.injEq, D.ref.injEq, D.ty.injEq, D.tup.injEq, D.lst.injEq, List.cons.injEq, and_true, true_and, ex_two, ex_two', exists_eq_left', exists_eq_left, exists_and_left, exists_and_right, exists_const, exists_eq_right, exists_eq_right', Bool.not_true, Bool.not_false, if_true, if_false, Bool.false_eq_true, reduceCtorEq, false_and, and_false, decide_true, decide_false]
        exact f2
    · obtain ⟨front, o5, o6, c, rfl, gp, hcs, hf, hl, hb, u⟩ := hI
      rw [rngD_len, Nat.zero_add] at hl u
      simp only [dRet, dRetN, dSeq, dAsg, dDrop, dIfS, dNext, dBreak, dCont, dPar, dSetL, dSetD, dFor, dVar, dC, dOp, dAndV, dOrV, dNotV, dAnd, dOr, dNot, dIf, dTest, dChain, dNil, dCons, dTup, dLst, dLstM, dStar, dNeg, dCB, dCall, dCallK, dMthT, dMth0, dLc, dYes, dISeq, dIStr, dIEnum, dIZip, dIRng1, dIRng2, dSl, dPart, dNoPart, dRaise, dDisp1, dNewD, dRevL, dRevT, dSortSet, dSortSetL, dIRng3, dGet2, dIKeys, dNewT, dSetT, dLstRg, dPar3, dLamA, dLamB, gdName, gdTup, gdCons, gdNil, dstart, dwipe, dAug, rdInt, rdSub, rdLt, rdLe, rdGt, rdGe, rdFdiv, rdMod, rdPow, at0, at1, at2, i30, i31, i32, set0, set1, set2, MO.lst.injEq, gup_same, gup_gup, ad_ii, ad_ss, ad_tt, ad_ll, mu_ii, mu_li, mu_ti, ix_t, ix_l, ix_s, ix_r, ix_w, ln_t, ln_l, ln_s, ln_w, ln_r, sr_t, sr_l, sr_s, sr_r, sl_t, sl_l, sl_s, sl_r, sl_w, tu_t, tu_l, tu_r, li_t, li_l, li_r, lm_t, lm_l, mx2, mn2, ab1, in1, is2, rdIsB, rdNotB, rdIsN, rdNotN, TD.isNon, List.map_cons, List.map_nil, List.length_cons, List.length_nil, List.replicate_succ, List.replicate_zero, List.cons_append, List.nil_append, List.append_nil, Nat.zero_add, Nat.reduceAdd, Nat.reduceSub, Nat.sub_self, Nat.add_sub_cancel, List.getElem?_cons_zero, List.getElem?_cons_succ, List.getElem?_nil, List.set_cons_zero, List.set_cons_succ, List.set_nil, Option.some.injEq, D.int.injEq, D.bl.injEq, D.str.injEq, D.ref.injEq, D.ty.injEq, D.tup.injEq, D.lst.injEq, List.cons.injEq, and_true, true_and, ex_two, ex_two', exists_eq_left', exists_eq_left, exists_and_left, exists_and_right, exists_const, exists_eq_right, exists_eq_right', Bool.not_true, Bool.not_false, if_true, if_false, Bool.false_eq_true, reduceCtorEq, false_and, and_false, decide_true, decide_false]
      exact ⟨_, gp, q c G2 hcs.cv hl hb (u.mono (by omega))⟩
  · exact h.elim
end K06
/-! ### the search through all convoys, in plain Lean -/
namespace K06
open PySem L2 TD
def RowOk (ts : Trucks) (gap span b : Int) (p : Int × Int) : Prop := ∀ c, Cv ts gap p.1 c → p.2 + loadW ts span c ≤ b
def Fits (ts : Trucks) (span : Int) (p : Int × Int) (i : Nat) (f : Int) : Prop := i < ts.length ∧ p.1 ≤ f ∧ -(tOf ts i).len ≤ f ∧ f ≤ span
def nextR (ts : Trucks) (gap span : Int) (p : Int × Int) (i : Nat) (f : Int) : Int × Int := (f + (tOf ts i).len + gap, p.2 + onW (tOf ts i) span f)
theorem RowOk.next {ts : Trucks} {gap span b : Int} {p : Int × Int} {i : Nat} {f : Int} (h : RowOk ts gap span b p) (hi : i < ts.length) (hf : p.1 ≤ f) : RowOk ts gap span b (nextR ts gap span p i f) := fun c hc => by
  have := h ((i, f) :: c) (.cons hf hi hc)
  rw [loadW_cons] at this
  show p.2 + onW (tOf ts i) span f + loadW ts span c ≤ b
  have e : onW (tOf ts ((i, f) : Nat × Int).1) span ((i, f) : Nat × Int).2 = onW (tOf ts i) span f := rfl
  rw [e] at this
  omega
theorem RowOk.le {ts : Trucks} {gap span b : Int} {p : Int × Int} (h : RowOk ts gap span b p) : p.2 ≤ b := by
  have := h [] .nil
  rw [loadW_nil] at this
  omega
theorem cover_row {ts : Trucks} {gap span best : Int} (w : WTs ts) (hg : 1 ≤ gap) {rs : List (Int × Int)} {p : Int × Int} (hp : p.2 ≤ best) (hn : ∀ i f, Fits ts span p i f → nextR ts gap span p i f ∈ rs) : ∀ {l : Int} {c : Convoy}, Cv ts gap l c → p.1 ≤ l →
    p.2 + loadW ts span c ≤ best ∨ ∃ r ∈ rs, ∃ c', Cv ts gap r.1 c' ∧ p.2 + loadW ts span c ≤ r.2 + loadW ts span c' := by
  intro l c h
  induction h with
  | nil => intro _; exact .inl (by rw [loadW_nil]; omega)
  | @cons f g i r a b q ih =>
    intro hl
    have h1 := (w.tr b).l1
    by_cases e : span < g
    · left
      rw [load_far w hg (.cons (Int.le_refl g) b q : Cv ts gap g ((i, g) :: r)) e]
      omega
    by_cases e2 : g < -(tOf ts i).len
    · rw [loadW_cons]
      have e3 : onW (tOf ts ((i, g) : Nat × Int).1) span ((i, g) : Nat × Int).2 = 0 := onW_low (w.tr b) e2
      rw [e3, Int.zero_add]
      exact ih (by omega)
    · right
      refine ⟨_, hn i g ⟨b, by omega, by omega, by omega⟩, r, q, ?_⟩
      rw [loadW_cons]
      show p.2 + (onW (tOf ts i) span g + _) ≤ p.2 + onW (tOf ts i) span g + _
      omega
def Cover (ts : Trucks) (gap span : Int) (rs : List (Int × Int)) (best : Int) : Prop := ∀ c, Cv ts gap (-30) c → loadW ts span c ≤ best ∨ ∃ r ∈ rs, ∃ c', Cv ts gap r.1 c' ∧ loadW ts span c ≤ r.2 + loadW ts span c'
theorem Cover.start {ts : Trucks} {gap span : Int} : Cover ts gap span [(-31, 0)] 0 := fun c hc => .inr ⟨(-31, 0), List.mem_singleton.mpr rfl, c, hc.le (by decide), by rw [Int.zero_add]; exact Int.le_refl _⟩
theorem Cover.step {ts : Trucks} {gap span best best' : Int} {rs rs' : List (Int × Int)} (h : Cover ts gap span rs best) (w : WTs ts) (hg : 1 ≤ gap) (hb : best ≤ best') (hw : ∀ p ∈ rs, p.2 ≤ best) (hn : ∀ p ∈ rs, ∀ i f, Fits ts span p i f → nextR ts gap span p i f ∈ rs') : Cover ts gap span rs' best' := fun c hc => by
  rcases h c hc with a | ⟨r, hr, c', hc', hl⟩
  · exact .inl (by omega)
  · have := hw r hr
    rcases cover_row w hg (show r.2 ≤ best' by omega) (hn r hr) hc' (Int.le_refl _) with a | ⟨r2, hr2, c2, hc2, hl2⟩
    · exact .inl (by omega)
    · exact .inr ⟨r2, hr2, c2, hc2, by omega⟩
theorem Cover.done {ts : Trucks} {gap span best : Int} {q : Int × Convoy} (h : Cover ts gap span [] best) (B : Best ts gap span (-30) q) : q.1 ≤ best := by
  rcases h _ B.cv with a | ⟨r, hr, _⟩
  · rw [B.ld] at a; exact a
  · cases hr
theorem sum_le {m : Int} : ∀ {l : List Int}, (∀ x ∈ l, x ≤ m) → l.sum ≤ m * l.length
  | [], _ => by simp
  | x :: r, h => by
    rw [List.sum_cons, List.length_cons]
    have := h x List.mem_cons_self
    have := sum_le fun y hy => h y (List.mem_cons_of_mem _ hy)
    have e : m * ((r.length + 1 : Nat) : Int) = m * r.length + m := by rw [Int.natCast_add, Int.mul_add]; simp
    omega
theorem onW_le {t : Truck} (w : WTr t) (span f : Int) : onW t span f ≤ 250 := by
  unfold onW
  have h := sum_le (m := 50) (l := (t.ax.filter (isOn span f)).map (·.2)) fun x hx => by
    obtain ⟨a, ha, rfl⟩ := List.mem_map.mp hx
    have := w.pl a (List.mem_filter.mp ha).1
    omega
  have h2 := List.length_filter_le (isOn span f) t.ax
  have h3 := w.a2
  rw [List.length_map] at h
  omega
theorem nodup_bound {l : List Int} (hn : l.Nodup) (N : Nat) (h : ∀ x ∈ l, 0 ≤ x ∧ x < (N : Int)) : l.length ≤ N := by
  have := nodup_len (m := (List.range N).map Int.ofNat) hn fun x hx => by
    obtain ⟨a, b⟩ := h x hx
    refine List.mem_map.mpr ⟨x.toNat, List.mem_range.mpr (by omega), ?_⟩
    show (x.toNat : Int) = x
    omega
  rwa [List.length_map, List.length_range] at this
structure RowGood (ts : Trucks) (gap span b : Int) (k : Nat) (p : Int × Int) : Prop where
  lo : 2 * (k : Int) - 1 ≤ p.1 ∨ k = 0
  hi : p.1 ≤ 31
  w0 : 0 ≤ p.2
  w1 : p.2 ≤ 250 * (k : Int)
  ok : RowOk ts gap span b p
theorem RowGood.next {ts : Trucks} {gap span b : Int} {k : Nat} {p : Int × Int} {i : Nat} {f : Int} (w : WTs ts) (h3 : ∀ t ∈ ts, t.len ≤ 3) (g1 : 1 ≤ gap) (g2 : gap ≤ 20) (s1 : span ≤ 8) (h : RowGood ts gap span b k p) (hf : Fits ts span p i f) : RowGood ts gap span b (k + 1) (nextR ts gap span p i f) := by
  obtain ⟨a, b, c, d⟩ := hf
  have h1 := w.tr a
  have h2 := h1.l1
  have h4 := h3 _ (tOf_mem a)
  have h5 := onW_nonneg h1 span f
  have h6 := onW_le h1 span f
  have h7 := h.lo
  have h8 := h.w0
  have h9 := h.w1
  refine ⟨.inl ?_, ?_, ?_, ?_, h.ok.next a b⟩ <;> simp only [nextR] <;> omega
def kT (p : Int × Int) : List Key := [.inl p.1, .inl p.2]
def rowD (p : Int × Int) : D := .tup [.int p.1, .int p.2]
theorem kT_inj {p r : Int × Int} (h : kT p = kT r) : p = r := by
  unfold kT at h
  injection h with h1 h
  injection h with h2 h
  injection h1 with h1
  injection h2 with h2
  exact Prod.ext h1 h2
theorem mem_kT {p : Int × Int} {ps : List (Int × Int)} : kT p ∈ ps.map kT ↔ p ∈ ps := ⟨fun h => by
  obtain ⟨r, hr, e⟩ := List.mem_map.mp h
  rw [← kT_inj e]
  exact hr, List.mem_map_of_mem⟩
structure StS (ts : Trucks) (gap span b : Int) (k : Nat) (best : Int) (ps : List (Int × Int)) (kvs : List (List Key × D)) : Prop where
  keys : kvs.map (·.1) = ps.map kT
  nd : ps.Nodup
  ok : ∀ p ∈ ps, RowGood ts gap span b (k + 1) p
  b0 : 0 ≤ best
  b1 : best ≤ b
  wl : ∀ p ∈ ps, p.2 ≤ best
theorem StS.len {ts : Trucks} {gap span b : Int} {k : Nat} {best : Int} {ps : List (Int × Int)} {kvs : List (List Key × D)} (h : StS ts gap span b k best ps kvs) (hk : k < 40) : kvs.length ≤ 400000 := by
  have e : kvs.length = ps.length := by
    have := congrArg List.length h.keys
    rwa [List.length_map, List.length_map] at this
  have h1 := nodup_bound (l := ps.map fun p => p.1 * 10001 + p.2) ?_ 400000 fun x hx => by
    obtain ⟨p, hp, rfl⟩ := List.mem_map.mp hx
    obtain ⟨a, b, c, d, _⟩ := h.ok p hp
    omega
  · rw [List.length_map] at h1
    omega
  · refine List.pairwise_map.mpr (List.Pairwise.imp_of_mem (fun {p r} hp hr hne z => hne ?_) h.nd)
    obtain ⟨a, b, c, d, _⟩ := h.ok p hp
    obtain ⟨a', b', c', d', _⟩ := h.ok r hr
    exact Prod.ext (by omega) (by omega)
theorem StS.put {ts : Trucks} {gap span b : Int} {k : Nat} {best : Int} {ps : List (Int × Int)} {kvs : List (List Key × D)} (h : StS ts gap span b k best ps kvs) {p : Int × Int} (hp : RowGood ts gap span b (k + 1) p) {best' : Int} (e : best' = if p.2 > best then p.2 else best) (d : D) :
    ∃ ps', StS ts gap span b k best' ps' (putD kvs (kT p) d) ∧ (∀ r ∈ ps, r ∈ ps') ∧ p ∈ ps' ∧ best ≤ best' := by
  have h0 := h.b0
  have h1 := h.b1
  have h2 := hp.ok.le
  have hb : best ≤ best' ∧ p.2 ≤ best' ∧ 0 ≤ best' ∧ best' ≤ b := by
    rw [e]; split <;> omega
  by_cases hm : p ∈ ps
  · refine ⟨ps, ⟨by rw [keys_putD, h.keys, if_pos (mem_kT.mpr hm)], h.nd, h.ok, hb.2.2.1, hb.2.2.2, fun r hr => by have := h.wl r hr; omega⟩, fun r hr => hr, hm, hb.1⟩
  · refine ⟨ps ++ [p], ⟨by rw [keys_putD, h.keys, if_neg (fun z => hm (mem_kT.mp z)), List.map_append]; rfl, ?_, fun r hr => ?_, hb.2.2.1, hb.2.2.2, fun r hr => ?_⟩, fun r hr => List.mem_append_left _ hr, List.mem_append_right _ (List.mem_singleton.mpr rfl), hb.1⟩
    · refine List.nodup_append.mpr ⟨h.nd, List.nodup_cons.mpr ⟨List.not_mem_nil, List.nodup_nil⟩, fun a ha c hc z => ?_⟩
      rw [List.mem_singleton.mp hc] at z
      exact hm (z ▸ ha)
    · rcases List.mem_append.mp hr with hr | hr
      · exact h.ok r hr
      · rw [List.mem_singleton.mp hr]; exact hp
    · rcases List.mem_append.mp hr with hr | hr
      · have := h.wl r hr; omega
      · rw [List.mem_singleton.mp hr]; exact hb.2.1
end K06
namespace K06
open PySem L2 TD
def sp__law_by_search (A : Ad) : SpD := fun zs G Q _ => match zs with
  | [v, .int gap, .int span] => ∃ ts q, v = trsD ts ∧ WTs ts ∧ (∀ t ∈ ts, t.len ≤ 3) ∧ 1 ≤ gap ∧ gap ≤ 20 ∧ 0 ≤ span ∧ span ≤ 8 ∧ Best ts gap span (-30) q ∧ ∀ G', Ext G G' → Q (.int q.1) G'
  | _ => False
theorem len__law_by_search {A : Ad} {zs : List D} {G : GH} {Q : DK} {x : XD} (h : sp__law_by_search A zs G Q x) : zs.length = 3 := by
  unfold sp__law_by_search at h
  split at h <;> first | rfl | exact h.elim
def ds__law_by_search (A : Ad) : DS := dSeq (dPar 3 4 (dLst (dCons (dTup (dCons (dNeg (dC (.int 31))) (dCons (dC (.int 0)) dNil))) dNil)) (dC (.int 0))) (dSeq (dFor (dIRng1 (dCons (dC (.int 40)) dNil)) (gdName 5) (dSeq (dAsg dNewT (gdName 6)) (dSeq (dFor (dISeq (dVar 3)) (gdTup (gdCons (gdName 7) (gdCons (gdName 8) gdNil)) 2) (dFor (dISeq (dVar 0)) (gdName 9) (dFor (dIRng2 (dCons (dCB rdMax2 (dCons (dVar 7) (dCons (dNeg (dOp rdIx (dVar 9) (dC (.int 0)))) dNil))) (dCons (dOp rdAdd (dVar 2) (dC (.int 1))) dNil))) (gdName 10) (dSeq (dAsg (dOp rdAdd (dVar 8) (dCall (sp__law_on A) (dCons (dVar 9) (dCons (dVar 2) (dCons (dVar 10) dNil))))) (gdName 11)) (dSeq (dAsg (dCB rdMax2 (dCons (dVar 4) (dCons (dVar 11) dNil))) (gdName 4)) (dSetT (dC (.bl true)) (dVar 6) (dTup (dCons (dOp rdAdd (dOp rdAdd (dVar 10) (dOp rdIx (dVar 9) (dC (.int 0)))) (dVar 1)) (dCons (dVar 11) dNil))))))))) (dSeq (dAsg (dCB rdListT (dCons (dVar 6) dNil)) (gdName 3)) (dIfS (dTest (dOp rdEq (dVar 3) (dLst dNil))) dBreak dNext))))) (dRet (dVar 4)))
def N__law_by_search : List PySem.Str := ["trucks", "gap", "span", "rows", "best", "turn", "longer", "least", "weight", "truck", "front", "more"]
theorem Ext.put {G G' : GH} {p : Addr} {m : MO} (h : Ext G G') (hp : G p = none) : Ext G (gup G' p m) := fun b n hb => by
  rw [gup_ne (fun z => by rw [z, hp] at hb; cases hb)]; exact h b n hb
theorem Ext.free {G G' : GH} {p : Addr} (h : Ext G G') (hp : G' p = none) : G p = none := by
  cases e : G p with
  | none => rfl
  | some m => rw [h p m e] at hp; cases hp
theorem read__law_by_search {A : Ad} {zs : List D} {G : GH} {Q : DK} {x : XD} (h : sp__law_by_search A zs G Q x) : ds__law_by_search A { nx := fun _ G' => Q .non G', rt := Q, xx := fun _ => x } (dstart N__law_by_search zs) G := by
  unfold sp__law_by_search at h
  split at h
  · rename_i v gap span
    obtain ⟨ts, q, rfl, w, h3, g1, g2, s1, s2, B, fin⟩ := h
    have n4 := w.n4
    have q0 := B.nonneg
    unfold N__law_by_search ds__law_by_search
    simp only [dRet, dRetN, dSeq, dAsg, dDrop, dIfS, dNext, dBreak, dCont, dPar, dSetL, dSetD, dFor, dVar, dC, dOp, dAndV, dOrV, dNotV, dAnd, dOr, dNot, dIf, dTest, dChain, dNil, dCons, dTup, dLst, dLstM, dStar, dNeg, dCB, dCall, dCallK, dMthT, dMth0, dLc, dYes, dISeq, dIStr, dIEnum, dIZip, dIRng1, dIRng2, dSl, dPart, dNoPart, dRaise, dDisp1, dNewD, dRevL, dRevT, dSortSet, dSortSetL, dIRng3, dGet2, dIKeys, dNewT, dSetT, dLstRg, dPar3, dLamA, dLamB, gdName, gdTup, gdCons, gdNil, dstart, dwipe, dAug, rdInt, rdSub, rdLt, rdLe, rdGt, rdGe, rdFdiv, rdMod, rdPow, at0, at1, at2, i30, i31, i32, set0, set1, set2, MO.lst.injEq, gup_same, gup_gup, ad_ii, ad_ss, ad_tt, ad_ll, mu_ii, mu_li, mu_ti, ix_t, ix_l, ix_s, ix_r, ix_w, ln_t, ln_l, ln_s, ln_w, ln_r, sr_t, sr_l, sr_s, sr_r, sl_t, sl_l, sl_s, sl_r, sl_w, tu_t, tu_l, tu_r, li_t, li_l, li_r, lm_t, lm_l, mx2, mn2, ab1, in1, is2, rdIsB, rdNotB, rdIsN, rdNotN, TD.isNon, List.map_cons, List.map_nil, List.length_cons, List.length_nil, List.replicate_succ, List.replicate_zero, List.cons_append, List.nil_append, List.append_nil, Nat.zero_add, Nat.reduceAdd, Nat.reduceSub, Nat.sub_self, Nat.add_sub_cancel, List.getElem?_cons_zero, List.getElem?_cons_succ, List.getElem?_nil, List.set_cons_zero, List.set_cons_succ, List.set_nil, Option.some.injEq, D.int.injEq, D.bl.injEq, D.str.injEq, D.ref.injEq, D.ty.injEq, D.tup.injEq, D.lst.injEq, List.cons.injEq, and_true, true_and, ex_two, ex_two', exists_eq_left', exists_eq_left, exists_and_left, exists_and_right, exists_const, exists_eq_right, exists_eq_right', Bool.not_true, Bool.not_false, if_true, if_false, Bool.false_eq_true, reduceCtorEq, false_and, and_false, decide_true, decide_false]
    repeat refine and_sz (by omega) ?_
    refine ⟨by omega, sz _ (by decide), ?_⟩
    have en : (40 : Int).toNat = 40 := rfl
    rw [en]
    refine dLoop_inv (fun k ρ G' => ∃ rs best o5 o6 o7 o8 o9 o10 o11, ρ = [some (trsD ts), some (.int gap), some (.int span), some (.lst (rs.map rowD)), some (.int best), o5, o6, o7, o8, o9, o10, o11] ∧ Ext G G' ∧ (∀ p ∈ rs, RowGood ts gap span q.1 k p) ∧ 0 ≤ best ∧ best ≤ q.1 ∧ (∀ p ∈ rs, p.2 ≤ best) ∧ Cover ts gap span rs best) 0
      ⟨[(-31, 0)], 0, _, _, _, _, _, _, _, rfl, Ext.refl G, fun p hp => ?_, Int.le_refl _, q0, fun p hp => by rw [List.mem_singleton.mp hp]; exact Int.le_refl _, Cover.start⟩ (fun _ _ _ _ _ _ => trivial) (fun k dd ρ G1 hi hI K1 hK => ?_) (fun ρ G1 hI => ?_)
    · rw [List.mem_singleton.mp hp]
      refine ⟨.inr rfl, by decide, by decide, by decide, fun c hc => ?_⟩
      have := best_low w g1 B hc
      show 0 + _ ≤ _
      omega
    · obtain ⟨rs, best, o5, o6, o7, o8, o9, o10, o11, rfl, e1, hrs, b0, b1, hw, hcov⟩ := hI
      obtain ⟨hk1, rfl⟩ := rngD_get hi
      rw [Nat.zero_add] at *
      simp only [dRet, dRetN, dSeq, dAsg, dDrop, dIfS, dNext, dBreak, dCont, dPar, dSetL, dSetD, dFor, dVar, dC, dOp, dAndV, dOrV, dNotV, dAnd, dOr, dNot, dIf, dTest, dChain, dNil, dCons, dTup, dLst, dLstM, dStar, dNeg, dCB, dCall, dCallK, dMthT, dMth0, dLc, dYes, dISeq, dIStr, dIEnum, dIZip, dIRng1, dIRng2, dSl, dPart, dNoPart, dRaise, dDisp1, dNewD, dRevL, dRevT, dSortSet, dSortSetL, dIRng3, dGet2, dIKeys, dNewT, dSetT, dLstRg, dPar3, dLamA, dLamB, gdName, gdTup, gdCons, gdNil, dstart, dwipe, dAug, rdInt, rdSub, rdLt, rdLe, rdGt, rdGe, rdFdiv, rdMod, rdPow, at0, at1, at2, i30, i31, i32, set0, set1, set2, MO.lst.injEq, gup_same, gup_gup, ad_ii, ad_ss, ad_tt, ad_ll, mu_ii, mu_li, mu_ti, ix_t, ix_l, ix_s, ix_r, ix_w, ln_t, ln_l, ln_s, ln_w, ln_r, sr_t, sr_l, sr_s, sr_r, sl_t, sl_l, sl_s, sl_r, sl_w, tu_t, tu_l, tu_r, li_t, li_l, li_r, lm_t, lm_l, mx2, mn2, ab1, in1, is2, rdIsB, rdNotB, rdIsN, rdNotN, TD.isNon, List.map_cons, List.map_nil, List.length_cons, List.length_nil, List.replicate_succ, List.replicate_zero, List.cons_append, List.nil_append, List.append_nil, Nat.zero_add, Nat.reduceAdd, Nat.reduceSub, Nat.sub_self, Nat.add_sub_cancel, List.getElem?_cons_zero, List.getElem?_cons_succ, List.getElem?_nil, List.set_cons_zero, List.set_cons_succ, List.set_nil, Option.some.injEq, D.int.injEq, D.bl.injEq, D.str.injEq, D.ref.injEq, D.ty.injEq, D.tup.injEq, D.lst.injEq, List.cons.injEq, and_true, true_and, ex_two, ex_two', exists_eq_left', exists_eq_left, exists_and_left, exists_and_right, exists_const, exists_eq_right, exists_eq_right', Bool.not_true, Bool.not_false, if_true, if_false, Bool.false_eq_true, reduceCtorEq, false_and, and_false, decide_true, decide_false]
      intro p hp
      have hpG := e1.free hp
      refine dLoop_inv (fun j ρ G2 => ∃ best' ps kvs o7 o8 o9 o10 o11, ρ = [some (trsD ts), some (.int gap), some (.int span), some (.lst (rs.map rowD)), some (.int best'), some (.int (0 + (k : Int))), some (.ref p), o7, o8, o9, o10, o11] ∧ G2 p = some (.dT kvs) ∧ Ext G G2 ∧ StS ts gap span q.1 k best' ps kvs ∧ best ≤ best' ∧ ∀ j' r, j' < j → rs[j']? = some r → ∀ i f, Fits ts span r i f → nextR ts gap span r i f ∈ ps) 0
        ⟨best, [], [], _, _, _, _, _, rfl, gup_same, e1.put hpG, ⟨rfl, List.nodup_nil, fun _ h => (List.not_mem_nil h).elim, b0, b1, fun _ h => (List.not_mem_nil h).elim⟩, Int.le_refl _, fun j' r hj => absurd hj (Nat.not_lt_zero _)⟩ (fun _ _ _ _ _ _ => trivial) (fun j d2 ρ G2 hj hJ K2 hK2 => ?_) (fun ρ G2 hJ => ?_)
      · obtain ⟨best', ps, kvs, o7, o8, o9, o10, o11, rfl, gp, e2, S, hb, hN⟩ := hJ
        rw [Nat.zero_add] at *
        rw [List.getElem?_map] at hj
        obtain ⟨r, hr, rfl⟩ := Option.map_eq_some_iff.mp hj
        have hrm := hrs r (List.mem_of_getElem? hr)
        unfold rowD trsD
        simp only [dRet, dRetN, dSeq, dAsg, dDrop, dIfS, dNext, dBreak, dCont, dPar, dSetL, dSetD, dFor, dVar, dC, dOp, dAndV, dOrV, dNotV, dAnd, dOr, dNot, dIf, dTest, dChain, dNil, dCons, dTup, dLst, dLstM, dStar, dNeg, dCB, dCall, dCallK, dMthT, dMth0, dLc, dYes, dISeq, dIStr, dIEnum, dIZip, dIRng1, dIRng2, dSl, dPart, dNoPart, dRaise, dDisp1, dNewD, dRevL, dRevT, dSortSet, dSortSetL, dIRng3, dGet2, dIKeys, dNewT, dSetT, dLstRg, dPar3, dLamA, dLamB, gdName, gdTup, gdCons, gdNil, dstart, dwipe, dAug, rdInt, rdSub, rdLt, rdLe, rdGt, rdGe, rdFdiv, rdMod, rdPow, at0, at1, at2, i30, i31, i32, set0, set1, set2, MO.lst.injEq, gup_same, gup_gup, ad_ii, ad_ss, ad_tt, ad_ll, mu_ii, mu_li, mu_ti, ix_t, ix_l, ix_s, ix_r, ix_w, ln_t, ln_l, ln_s, ln_w, ln_r, sr_t, sr_l, sr_s, sr_r, sl_t, sl_l, sl_s, sl_r, sl_w, tu_t, tu_l, tu_r, li_t, li_l, li_r, lm_t, lm_l, mx2, mn2, ab1, in1, is2, rdIsB, rdNotB, rdIsN, rdNotN, TD.isNon, List.map_cons, List.map_nil, List.length_cons, List.length_nil, List.replicate_succ, List.replicate_zero, List.cons_append, List.nil_append, List.append_nil, Nat.zero_add, Nat.reduceAdd, Nat.reduceSub, Nat.sub_self, Nat.add_sub_cancel, List.getElem?_cons_zero, List.getElem?_cons_succ, List.getElem?_nil, List.set_cons_zero, List.set_cons_succ, List.set_nil, Option.some.injEq, D.int.injEq, D.bl.injEq, D.str.injEq, D.ref.injEq, D.ty.injEq, D.tup.injEq, D.lst.injEq, List.cons.injEq, and_true, true_and, ex_two, ex_two', exists_eq_left', exists_eq_left, exists_and_left, exists_and_right, exists_const, exists_eq_right, exists_eq_right', Bool.not_true, Bool.not_false, if_true, if_false, Bool.false_eq_true, reduceCtorEq, false_and, and_false, decide_true, decide_false]
        refine dLoop_inv (fun i ρ G3 => ∃ best'' ps' kvs' o9 o10 o11, ρ = [some (.tup (ts.map trD)), some (.int gap), some (.int span), some (.lst (rs.map fun p => .tup [.int p.1, .int p.2])), some (.int best''), some (.int (0 + (k : Int))), some (.ref p), some (.int r.1), some (.int r.2), o9, o10, o11] ∧ G3 p = some (.dT kvs') ∧ Ext G G3 ∧ StS ts gap span q.1 k best'' ps' kvs' ∧ best' ≤ best'' ∧ (∀ z ∈ ps, z ∈ ps') ∧ ∀ i' f, i' < i → Fits ts span r i' f → nextR ts gap span r i' f ∈ ps') 0
          ⟨best', ps, kvs, _, _, _, rfl, gp, e2, S, Int.le_refl _, fun z hz => hz, fun i' f hi => absurd hi (Nat.not_lt_zero _)⟩ (fun _ _ _ _ _ _ => trivial) (fun i d3 ρ G3 hi3 hJ K3 hK3 => ?_) (fun ρ G3 hJ => ?_)
        · obtain ⟨best2, ps2, kvs2, o9, o10, o11, rfl, gp2, e3, S2, hb2, hs2, hN2⟩ := hJ
          rw [Nat.zero_add] at *
          rw [List.getElem?_map] at hi3
          obtain ⟨t, ht, rfl⟩ := Option.map_eq_some_iff.mp hi3
          have hil := (List.getElem?_eq_some_iff.mp ht).1
          have et : tOf ts i = t := by
            unfold tOf
            rw [List.getD_eq_getElem?_getD, ht]
            rfl
          have wt := w.tr hil
          have l3 := h3 _ (tOf_mem hil)
          rw [et] at wt l3
          have l1 := wt.l1
          have etr : trD t = .tup [.int t.len, .tup (t.ax.map axD)] := rfl
          have hlo := hrm.lo
          have hhi := hrm.hi
          rw [etr]
          simp only [dRet, dRetN, dSeq, dAsg, dDrop, dIfS, dNext, dBreak, dCont, dPar, dSetL, dSetD, dFor, dVar, dC, dOp, dAndV, dOrV, dNotV, dAnd, dOr, dNot, dIf, dTest, dChain, dNil, dCons, dTup, dLst, dLstM, dStar, dNeg, dCB, dCall, dCallK, dMthT, dMth0, dLc, dYes, dISeq, dIStr, dIEnum, dIZip, dIRng1, dIRng2, dSl, dPart, dNoPart, dRaise, dDisp1, dNewD, dRevL, dRevT, dSortSet, dSortSetL, dIRng3, dGet2, dIKeys, dNewT, dSetT, dLstRg, dPar3, dLamA, dLamB, gdName, gdTup, gdCons, gdNil, dstart, dwipe, dAug, rdInt, rdSub, rdLt, rdLe, rdGt, rdGe, rdFdiv, rdMod, rdPow, at0, at1, at2, i30, i31, i32, set0, set1, set2, MO.lst.injEq, gup_same, gup_gup, ad_ii, ad_ss, ad_tt, ad_ll, mu_ii, mu_li, mu_ti, ix_t, ix_l, ix_s, ix_r, ix_w, ln_t, ln_l, ln_s, ln_w, ln_r, sr_t, sr_l, sr_s, sr_r, sl_t, sl_l, sl_s, sl_r, sl_w, tu_t, tu_l, tu_r, li_t, li_l, li_r, lm_t, lm_l, mx2, mn2, ab1, in1, is2, rdIsB, rdNotB, rdIsN, rdNotN, TD.isNon, List.map_cons, List.map_nil, List.length_cons, List.length_nil, List.replicate_succ, List.replicate_zero, List.cons_append, List.nil_append, List.append_nil, Nat.zero_add, Nat.reduceAdd, Nat.reduceSub, Nat.sub_self, Nat.add_sub_cancel, List.getElem?_cons_zero, List.getElem?_cons_succ, List.getElem?_nil, List.set_cons_zero, List.set_cons_succ, List.set_nil, Option.some.injEq, D.int.injEq, D.bl.injEq, D.str.injEq, D.ref.injEq, D.ty.injEq, D.tup.injEq, D.lst.injEq, List.cons.injEq, and_true, true_and, ex_two, ex_two', exists_eq_left', exists_eq_left, exists_and_left, exists_and_right, exists_const, exists_eq_right, exists_eq_right', Bool.not_true, Bool.not_false, if_true, if_false, Bool.false_eq_true, reduceCtorEq, false_and, and_false, decide_true, decide_false]
          obtain ⟨lo, elo⟩ : ∃ lo : Int, lo = (if -t.len > r.1 then -t.len else r.1) := ⟨_, rfl⟩
          rw [← elo]
          have hlo2 : r.1 ≤ lo ∧ -t.len ≤ lo ∧ lo ≤ 31 ∧ (lo = r.1 ∨ lo = -t.len) := by rw [elo]; split <;> omega
          refine ⟨⟨by omega, by omega, by omega, by omega⟩, sz _ (by omega), ?_⟩
          refine dLoop_inv (fun m ρ G4 => ∃ best3 ps3 kvs3 o10 o11, ρ = [some (.tup (ts.map trD)), some (.int gap), some (.int span), some (.lst (rs.map fun p => .tup [.int p.1, .int p.2])), some (.int best3), some (.int (0 + (k : Int))), some (.ref p), some (.int r.1), some (.int r.2), some (trD t), o10, o11] ∧ G4 p = some (.dT kvs3) ∧ Ext G G4 ∧ StS ts gap span q.1 k best3 ps3 kvs3 ∧ best2 ≤ best3 ∧ (∀ z ∈ ps2, z ∈ ps3) ∧ ∀ f, lo ≤ f → f < lo + (m : Int) → f ≤ span → nextR ts gap span r i f ∈ ps3) 0
            ⟨best2, ps2, kvs2, _, _, rfl, gp2, e3, S2, Int.le_refl _, fun z hz => hz, fun f h1 h2 => by omega⟩ (fun _ _ _ _ _ _ => trivial) (fun m d4 ρ G4 hm hJ K4 hK4 => ?_) (fun ρ G4 hJ => ?_)
          · obtain ⟨best3, ps3, kvs3, o10, o11, rfl, gp3, e4, S3, hb3, hs3, hN3⟩ := hJ
            rw [Nat.zero_add] at *
            obtain ⟨hm1, rfl⟩ := rngD_get hm
            have hF : Fits ts span r i (lo + m) := ⟨hil, by omega, by rw [et]; omega, by omega⟩
            have hG := RowGood.next w h3 g1 g2 s2 hrm hF
            have enx : nextR ts gap span r i (lo + m) = (lo + m + t.len + gap, r.2 + onW t span (lo + m)) := by unfold nextR; rw [et]
            obtain ⟨ps4, S4, hs4, hm4, hb4⟩ := S3.put hG (best' := if r.2 + onW t span (lo + m) > best3 then r.2 + onW t span (lo + m) else best3) (by rw [enx]) (.bl true)
            simp only [dRet, dRetN, dSeq, dAsg, dDrop, dIfS, dNext, dBreak, dCont, dPar, dSetL, dSetD, dFor, dVar, dC, dOp, dAndV, dOrV, dNotV, dAnd, dOr, dNot, dIf, dTest, dChain, dNil, dCons, dTup, dLst, dLstM, dStar, dNeg, dCB, dCall, dCallK, dMthT, dMth0, dLc, dYes, dISeq, dIStr, dIEnum, dIZip, dIRng1, dIRng2, dSl, dPart, dNoPart, dRaise, dDisp1, dNewD, dRevL, dRevT, dSortSet, dSortSetL, dIRng3, dGet2, dIKeys, dNewT, dSetT, dLstRg, dPar3, dLamA, dLamB, gdName, gdTup, gdCons, gdNil, dstart, dwipe, dAug, rdInt, rdSub, rdLt, rdLe, rdGt, rdGe, rdFdiv, rdMod, rdPow, at0, at1, at2, i30, i31, i32, set0, set1, set2, MO.lst.injEq, gup_same, gup_gup, ad_ii, ad_ss, ad_tt, ad_ll, mu_ii, mu_li, mu_ti, ix_t, ix_l, ix_s, ix_r, ix_w, ln_t, ln_l, ln_s, ln_w, ln_r, sr_t, sr_l, sr_s, sr_r, sl_t, sl_l, sl_s, sl_r, sl_w, tu_t, tu_l, tu_r, li_t, li_l, li_r, lm_t, lm_l, mx2, mn2, ab1, in1, is2, rdIsB, rdNotB, rdIsN, rdNotN, TD.isNon, List.map_cons, List.map_nil, List.length_cons, List.length_nil, List.replicate_succ, List.replicate_zero, List.cons_append, List.nil_append, List.append_nil, Nat.zero_add, Nat.reduceAdd, Nat.reduceSub, Nat.sub_self, Nat.add_sub_cancel, List.getElem?_cons_zero, List.getElem?_cons_succ, List.getElem?_nil, List.set_cons_zero, List.set_cons_succ, List.set_nil, Option.some.injEq, D.int.injEq, D.bl.injEq, D.str.injEq, D.ref.injEq, D.ty.injEq, D.tup.injEq, D.lst.injEq, List.cons.injEq, and_true, true_and, ex_two, ex_two', exists_eq_left', exists_eq_left, exists_and_left, exists_and_right, exists_const, exists_eq_right, exists_eq_right', Bool.not_true, Bool.not_false, if_true, if_false, Bool.false_eq_true, reduceCtorEq, false_and, and_false, decide_true, decide_false]
            refine ⟨t, rfl, ?_⟩
            rw [etr]
            simp only [dRet, dRetN, dSeq, dAsg, dDrop, dIfS, dNext, dBreak, dCont, dPar, dSetL, dSetD, dFor, dVar, dC, dOp, dAndV, dOrV, dNotV, dAnd, dOr, dNot, dIf, dTest, dChain, dNil, dCons, dTup, dLst, dLstM, dStar, dNeg, dCB, dCall, dCallK, dMthT, dMth0, dLc, dYes, dISeq, dIStr, dIEnum, dIZip, dIRng1, dIRng2, dSl, dPart, dNoPart, dRaise, dDisp1, dNewD, dRevL, dRevT, dSortSet, dSortSetL, dIRng3, dGet2, dIKeys, dNewT, dSetT, dLstRg, dPar3, dLamA, dLamB, gdName, gdTup, gdCons, gdNil, dstart, dwipe, dAug, rdInt, rdSub, rdLt, rdLe, rdGt, rdGe, rdFdiv, rdMod, rdPow, at0, at1, at2, i30, i31, i32, set0, set1, set2, MO.lst.injEq, gup_same, gup_gup, ad_ii, ad_ss, ad_tt, ad_ll, mu_ii, mu_li, mu_ti, ix_t, ix_l, ix_s, ix_r, ix_w, ln_t, ln_l, ln_s, ln_w, ln_r, sr_t, sr_l, sr_s, sr_r, sl_t, sl_l, sl_s, sl_r, sl_w, tu_t, tu_l, tu_r, li_t, li_l, li_r, lm_t, lm_l, mx2, mn2, ab1, in1, is2, rdIsB, rdNotB, rdIsN, rdNotN, TD.isNon, List.map_cons, List.map_nil, List.length_cons, List.length_nil, List.replicate_succ, List.replicate_zero, List.cons_append, List.nil_append, List.append_nil, Nat.zero_add, Nat.reduceAdd, Nat.reduceSub, Nat.sub_self, Nat.add_sub_cancel, List.getElem?_cons_zero, List.getElem?_cons_succ, List.getElem?_nil, List.set_cons_zero, List.set_cons_succ, List.set_nil, Option.some.injEq, D.int.injEq, D.bl.injEq, D.str.injEq, D.ref.injEq, D.ty.injEq, D.tup.injEq, D.lst.injEq, List.cons.injEq, and_true, true_and, ex_two, ex_two', exists_eq_left', exists_eq_left, exists_and_left, exists_and_right, exists_const, exists_eq_right, exists_eq_right', Bool.not_true, Bool.not_false, if_true, if_false, Bool.false_eq_true, reduceCtorEq, false_and, and_false, decide_true, decide_false]
            repeat refine and_sz (by omega) ?_
            have hlen := S3.len hk1
            refine ⟨kvs3, kT (nextR ts gap span r i (lo + m)), by rw [enx]; rfl, gp3, Nat.lt_of_le_of_lt hlen (Nat.lt_of_lt_of_le (show 400000 < 500000 by decide) (sz _ (by decide))), ?_⟩
            refine hK4 _ _ ⟨_, ps4, _, _, _, rfl, gup_same, e4.put hpG, S4, by omega, fun z hz => hs4 z (hs3 z hz), fun f h1 h2 h5 => ?_⟩
            by_cases e : f = lo + m
            · rw [e]; exact hm4
            · exact hs4 _ (hN3 f h1 (by omega) h5)
          · obtain ⟨best3, ps3, kvs3, o10, o11, rfl, gp3, e4, S3, hb3, hs3, hN3⟩ := hJ
            rw [rngD_len, Nat.zero_add] at hN3
            refine hK3 _ _ ⟨best3, ps3, kvs3, _, _, _, rfl, gp3, e4, S3, by omega, fun z hz => hs3 z (hs2 z hz), fun i' f h1 hf => ?_⟩
            by_cases e : i' = i
            · subst e
              obtain ⟨_, f1, f2, f3⟩ := hf
              rw [et] at f2
              exact hN3 f (by omega) (by omega) f3
            · exact hs3 _ (hN2 i' f (by omega) hf)
        · obtain ⟨best2, ps2, kvs2, o9, o10, o11, rfl, gp2, e3, S2, hb2, hs2, hN2⟩ := hJ
          rw [List.length_map, Nat.zero_add] at hN2
          refine hK2 _ _ ⟨best2, ps2, kvs2, _, _, _, _, _, rfl, gp2, e3, S2, by omega, fun j' z h1 hz i f hf => ?_⟩
          by_cases e : j' = j
          · subst e
            rw [hr] at hz
            cases hz
            exact hN2 i f hf.1 hf
          · exact hs2 _ (hN j' z (by omega) hz i f hf)
      · obtain ⟨best', ps, kvs, o7, o8, o9, o10, o11, rfl, gp, e2, S, hb, hN⟩ := hJ
        rw [List.length_map, Nat.zero_add] at hN
        simp only [dRet, dRetN, dSeq, dAsg, dDrop, dIfS, dNext, dBreak, dCont, dPar, dSetL, dSetD, dFor, dVar, dC, dOp, dAndV, dOrV, dNotV, dAnd, dOr, dNot, dIf, dTest, dChain, dNil, dCons, dTup, dLst, dLstM, dStar, dNeg, dCB, dCall, dCallK, dMthT, dMth0, dLc, dYes, dISeq, dIStr, dIEnum, dIZip, dIRng1, dIRng2, dSl, dPart, dNoPart, dRaise, dDisp1, dNewD, dRevL, dRevT, dSortSet, dSortSetL, dIRng3, dGet2, dIKeys, dNewT, dSetT, dLstRg, dPar3, dLamA, dLamB, gdName, gdTup, gdCons, gdNil, dstart, dwipe, dAug, rdInt, rdSub, rdLt, rdLe, rdGt, rdGe, rdFdiv, rdMod, rdPow, at0, at1, at2, i30, i31, i32, set0, set1, set2, MO.lst.injEq, gup_same, gup_gup, ad_ii, ad_ss, ad_tt, ad_ll, mu_ii, mu_li, mu_ti, ix_t, ix_l, ix_s, ix_r, ix_w, ln_t, ln_l, ln_s, ln_w, ln_r, sr_t, sr_l, sr_s, sr_r, sl_t, sl_l, sl_s, sl_r, sl_w, tu_t, tu_l, tu_r, li_t, li_l, li_r, lm_t, lm_l, mx2, mn2, ab1, in1, is2, rdIsB, rdNotB, rdIsN, rdNotN, TD.isNon, List.map_cons, List.map_nil, List.length_cons, List.length_nil, List.replicate_succ, List.replicate_zero, List.cons_append, List.nil_append, List.append_nil, Nat.zero_add, Nat.reduceAdd, Nat.reduceSub, Nat.sub_self, Nat.add_sub_cancel, List.getElem?_cons_zero, List.getElem?_cons_succ, List.getElem?_nil, List.set_cons_zero, List.set_cons_succ, List.set_nil, Option.some.injEq, D.int.injEq, D.bl.injEq, D.str.injEq, D.ref.injEq, D.ty.injEq, D.tup.injEq, D.lst.injEq, List.cons.injEq, and_true, true_and, ex_two, ex_two', exists_eq_left', exists_eq_left, exists_and_left, exists_and_right, exists_const, exists_eq_right, exists_eq_right', Bool.not_true, Bool.not_false, if_true, if_false, Bool.false_eq_true, reduceCtorEq, false_and, and_false, decide_true, decide_false]
        have hcov' : Cover ts gap span ps best' := hcov.step w g1 hb hw fun z hz i f hf => by
          obtain ⟨j', hj', e⟩ := List.mem_iff_getElem.mp hz
          exact hN j' z hj' (by rw [List.getElem?_eq_getElem hj', e]) i f hf
        have ek : (kvs.map fun kv => tkD kv.1) = ps.map rowD := by
          have := congrArg (List.map tkD) S.keys
          rw [List.map_map, List.map_map] at this
          exact this
        refine ⟨p, kvs, rfl, gp, Nat.le_trans (S.len hk1) (sz _ (by decide)), fun kv hkv => ?_, ?_⟩
        · have h9 : kv.1 ∈ ps.map kT := by rw [← S.keys]; exact List.mem_map_of_mem hkv
          obtain ⟨z, _, e⟩ := List.mem_map.mp h9
          rw [← e]
          exact sz 2 (by decide)
        · rw [ek]
          refine ⟨sz _ (by decide), eq_pur (pur_lstI fun y hy => ?_) rfl ⟨_, rfl, ?_⟩⟩
          · obtain ⟨z, _, rfl⟩ := List.mem_map.mp hy
            rfl
          · cases ps with
            | nil =>
              have e9 : deq (.lst (([] : List (Int × Int)).map rowD)) (.lst []) = true := rfl
              rw [e9]
              simp only [if_true]
              have h9 := hcov'.done B
              have h10 := S.b1
              have e10 : best' = q.1 := by omega
              rw [e10]
              exact fin _ e2
            | cons z zs =>
              have e9 : deq (.lst ((z :: zs).map rowD)) (.lst []) = false := by simp [deq, deqs]
              rw [e9]
              simp only [Bool.false_eq_true, if_false]
              exact hK _ _ ⟨z :: zs, best', _, _, _, _, _, _, _, rfl, e2, S.ok, S.b0, S.b1, S.wl, hcov'⟩
    · obtain ⟨rs, best, o5, o6, o7, o8, o9, o10, o11, rfl, e1, hrs, b0, b1, hw, hcov⟩ := hI
      rw [rngD_len] at hrs
      simp only [dRet, dRetN, dSeq, dAsg, dDrop, dIfS, dNext, dBreak, dCont, dPar, dSetL, dSetD, dFor, dVar, dC, dOp, dAndV, dOrV, dNotV, dAnd, dOr, dNot, dIf, dTest, dChain, dNil, dCons, dTup, dLst, dLstM, dStar, dNeg, dCB, dCall, dCallK, dMthT, dMth0, dLc, dYes, dISeq, dIStr, dIEnum, dIZip, dIRng1, dIRng2, dSl, dPart, dNoPart, dRaise, dDisp1, dNewD, dRevL, dRevT, dSortSet, dSortSetL, dIRng3, dGet2, dIKeys, dNewT, dSetT, dLstRg, dPar3, dLamA, dLamB, gdName, gdTup, gdCons, gdNil, dstart, dwipe, dAug, rdInt, rdSub, rdLt, rdLe, rdGt, rdGe, rdFdiv, rdMod, rdPow, at0, at1, at2, i30, i31, i32, set0, set1, set2, MO.lst.injEq, gup_same, gup_gup, ad_ii, ad_ss, ad_tt, ad_ll, mu_ii, mu_li, mu_ti, ix_t, ix_l, ix_s, ix_r, ix_w, ln_t, ln_l, ln_s, ln_w, ln_r, sr_t, sr_l, sr_s, sr_r, sl_t, sl_l, sl_s, sl_r, sl_w, tu_t, tu_l, tu_r, li_t, li_l, li_r, lm_t, lm_l, mx2, mn2, ab1, in1, is2, rdIsB, rdNotB, rdIsN, rdNotN, TD.isNon, List.map_cons, List.map_nil, List.length_cons, List.length_nil, List.replicate_succ, List.replicate_zero, List.cons_append, List.nil_append, List.append_nil, Nat.zero_add, Nat.reduceAdd, Nat.reduceSub, Nat.sub_self, Nat.add_sub_cancel, List.getElem?_cons_zero, List.getElem?_cons_succ, List.getElem?_nil, List.set_cons_zero, List.set_cons_succ, List.set_nil, Option.some.injEq, D.int.injEq, D.bl.injEq, D.str.injEq, D.ref.injEq, D.ty.injEq, D.tup.injEq, D.lst.injEq, List.cons.injEq, and_true, true_and, ex_two, ex_two', exists_eq_left', exists_eq_left, exists_and_left, exists_and_right, exists_const, exists_eq_right, exists_eq_right', Bool.not_true, Bool.not_false, if_true, if_false, Bool.false_eq_true, reduceCtorEq, false_and, and_false, decide_true, decide_false]
      have er : rs = [] := by
        cases rs with
        | nil => rfl
        | cons z zs =>
          obtain ⟨a, b, _⟩ := hrs z List.mem_cons_self
          omega
      subst er
      have h9 := hcov.done B
      have e10 : best = q.1 := by omega
      rw [e10]
      exact fin _ e1
  · exact h.elim
end K06
namespace K06
open PySem L2 TD
theorem mem_cutX {α : Type} {xs : List α} {lo hi : Option Int} {x : α} (h : x ∈ cutX xs lo hi) : x ∈ xs := List.mem_of_mem_drop (List.mem_of_mem_take h)
theorem len_cutX {α : Type} (xs : List α) (lo hi : Option Int) : (cutX xs lo hi).length ≤ xs.length := by
  unfold cutX
  rw [List.length_take, List.length_drop]
  omega
def sp__law_near (A : Ad) : SpD := fun zs G Q _ => match zs with
  | [.ref a, v] => ∃ m c, v = frsD c ∧ c.length ≤ 1000 ∧ Dc G a m ∧ m ≤ 500000 ∧ ∀ u G', Pur u → Upd a (m + 3) G G' → Q u G'
  | _ => False
theorem len__law_near {A : Ad} {zs : List D} {G : GH} {Q : DK} {x : XD} (h : sp__law_near A zs G Q x) : zs.length = 2 := by
  unfold sp__law_near at h
  split at h <;> first | rfl | exact h.elim
def ds__law_near (A : Ad) : DS := dSeq (dAsg (dCall (sp__law_roll A) (dCons (dVar 0) (dCons (dOp rdAdd (dCB rdLen (dCons (dVar 1) dNil)) (dC (.int 1))) dNil))) (gdName 2)) (dSeq (dAsg (dCall (sp__law_pick A) (dCons (dVar 0) (dCons (dLst (dCons (dC (.int 1)) (dCons (dNeg (dC (.int 1))) (dCons (dC (.int 1)) (dCons (dNeg (dC (.int 1))) (dCons (dC (.int 200)) dNil)))))) dNil))) (gdName 3)) (dSeq (dAsg (dOp rdAdd (dSl (dVar 1) dNoPart (dPart (dVar 2))) (dCB rdTuple (dCons (dLc (dISeq (dSl (dVar 1) (dPart (dVar 2)) dNoPart)) (gdTup (gdCons (gdName 4) (gdCons (gdName 5) gdNil)) 2) dYes (dTup (dCons (dVar 4) (dCons (dOp rdAdd (dVar 5) (dVar 3)) dNil))) [4, 5]) dNil))) (gdName 6)) (dRet (dCall (sp__law_pick A) (dCons (dVar 0) (dCons (dLst (dCons (dVar 6) (dCons (dVar 6) (dCons (dOp rdAdd (dSl (dVar 1) dNoPart (dPart (dVar 2))) (dSl (dVar 1) (dPart (dOp rdAdd (dVar 2) (dC (.int 1)))) dNoPart)) (dCons (dRevT (dVar 1)) (dCons (dCB rdList (dCons (dVar 1) dNil)) (dCons (dC .non) (dCons (dSl (dVar 1) dNoPart (dPart (dVar 2))) (dCons (dOp rdAdd (dVar 1) (dTup (dCons (dC .non) dNil))) (dCons (dOp rdAdd (dVar 1) (dTup (dCons (dTup (dCons (dC (.bl true)) (dCons (dC (.int 0)) dNil))) dNil))) dNil)))))))))) dNil))))))
def N__law_near : List PySem.Str := ["dice", "value", "at", "by", "truck", "front", "later"]
theorem pur_conv {c : List (Nat × Int)} {r : List D} (h : ∀ d ∈ r, ∃ a b : D, d = .tup [a, b] ∧ pureN 58 a = true ∧ pureN 58 b = true) : Pur (.tup r) := pur_tupI fun d hd => by
  obtain ⟨a, b, rfl, h1, h2⟩ := h d hd
  show ([a, b]).all (pureN 58) = true
  simp [h1, h2]
theorem read__law_near {A : Ad} {zs : List D} {G : GH} {Q : DK} {x : XD} (h : sp__law_near A zs G Q x) : ds__law_near A { nx := fun _ G' => Q .non G', rt := Q, xx := fun _ => x } (dstart N__law_near zs) G := by
  unfold sp__law_near at h
  split at h
  · rename_i a v
    obtain ⟨m, c, rfl, hl, hc, hm, q⟩ := h
    unfold N__law_near ds__law_near frsD
    simp only [dRet, dRetN, dSeq, dAsg, dDrop, dIfS, dNext, dBreak, dCont, dPar, dSetL, dSetD, dFor, dVar, dC, dOp, dAndV, dOrV, dNotV, dAnd, dOr, dNot, dIf, dTest, dChain, dNil, dCons, dTup, dLst, dLstM, dStar, dNeg, dCB, dCall, dCallK, dMthT, dMth0, dLc, dYes, dISeq, dIStr, dIEnum, dIZip, dIRng1, dIRng2, dSl, dPart, dNoPart, dRaise, dDisp1, dNewD, dRevL, dRevT, dSortSet, dSortSetL, dIRng3, dGet2, dIKeys, dNewT, dSetT, dLstRg, dPar3, dLamA, dLamB, gdName, gdTup, gdCons, gdNil, dstart, dwipe, dAug, rdInt, rdSub, rdLt, rdLe, rdGt, rdGe, rdFdiv, rdMod, rdPow, at0, at1, at2, i30, i31, i32, set0, set1, set2, MO.lst.injEq, gup_same, gup_gup, ad_ii, ad_ss, ad_tt, ad_ll, mu_ii, mu_li, mu_ti, ix_t, ix_l, ix_s, ix_r, ix_w, ln_t, ln_l, ln_s, ln_w, ln_r, sr_t, sr_l, sr_s, sr_r, sl_t, sl_l, sl_s, sl_r, sl_w, tu_t, tu_l, tu_r, li_t, li_l, li_r, lm_t, lm_l, mx2, mn2, ab1, in1, is2, rdIsB, rdNotB, rdIsN, rdNotN, TD.isNon, List.map_cons, List.map_nil, List.length_cons, List.length_nil, List.replicate_succ, List.replicate_zero, List.cons_append, List.nil_append, List.append_nil, Nat.zero_add, Nat.reduceAdd, Nat.reduceSub, Nat.sub_self, Nat.add_sub_cancel, List.getElem?_cons_zero, List.getElem?_cons_succ, List.getElem?_nil, List.set_cons_zero, List.set_cons_succ, List.set_nil, Option.some.injEq, D.int.injEq, D.bl.injEq, D.str.injEq, D.ref.injEq, D.ty.injEq, D.tup.injEq, D.lst.injEq, List.cons.injEq, and_true, true_and, ex_two, ex_two', exists_eq_left', exists_eq_left, exists_and_left, exists_and_right, exists_const, exists_eq_right, exists_eq_right', Bool.not_true, Bool.not_false, if_true, if_false, Bool.false_eq_true, reduceCtorEq, false_and, and_false, decide_true, decide_false, List.length_map]
    refine roll_of hc (by omega) (by omega) (by omega) fun r G1 hr u1 => ?_
    try simp only [dRet, dRetN, dSeq, dAsg, dDrop, dIfS, dNext, dBreak, dCont, dPar, dSetL, dSetD, dFor, dVar, dC, dOp, dAndV, dOrV, dNotV, dAnd, dOr, dNot, dIf, dTest, dChain, dNil, dCons, dTup, dLst, dLstM, dStar, dNeg, dCB, dCall, dCallK, dMthT, dMth0, dLc, dYes, dISeq, dIStr, dIEnum, dIZip, dIRng1, dIRng2, dSl, dPart, dNoPart, dRaise, dDisp1, dNewD, dRevL, dRevT, dSortSet, dSortSetL, dIRng3, dGet2, dIKeys, dNewT, dSetT, dLstRg, dPar3, dLamA, dLamB, gdName, gdTup, gdCons, gdNil, dstart, dwipe, dAug, rdInt, rdSub, rdLt, rdLe, rdGt, rdGe, rdFdiv, rdMod, rdPow, at0, at1, at2, i30, i31, i32, set0, set1, set2, MO.lst.injEq, gup_same, gup_gup, ad_ii, ad_ss, ad_tt, ad_ll, mu_ii, mu_li, mu_ti, ix_t, ix_l, ix_s, ix_r, ix_w, ln_t, ln_l, ln_s, ln_w, ln_r, sr_t, sr_l, sr_s, sr_r, sl_t, sl_l, sl_s, sl_r, sl_w, tu_t, tu_l, tu_r, li_t, li_l, li_r, lm_t, lm_l, mx2, mn2, ab1, in1, is2, rdIsB, rdNotB, rdIsN, rdNotN, TD.isNon, List.map_cons, List.map_nil, List.length_cons, List.length_nil, List.replicate_succ, List.replicate_zero, List.cons_append, List.nil_append, List.append_nil, Nat.zero_add, Nat.reduceAdd, Nat.reduceSub, Nat.sub_self, Nat.add_sub_cancel, List.getElem?_cons_zero, List.getElem?_cons_succ, List.getElem?_nil, List.set_cons_zero, List.set_cons_succ, List.set_nil, Option.some.injEq, D.int.injEq, D.bl.injEq, D.str.injEq, D.ref.injEq, D.ty.injEq, D.tup.injEq, D.lst.injEq, List.cons.injEq, and_true, true_and, ex_two, ex_two', exists_eq_left', exists_eq_left, exists_and_left, exists_and_right, exists_const, exists_eq_right, exists_eq_right', Bool.not_true, Bool.not_false, if_true, if_false, Bool.false_eq_true, reduceCtorEq, false_and, and_false, decide_true, decide_false, List.length_map]
    refine ⟨sz _ (by omega), pick_of u1.2 (by omega) (by show 0 < 5; decide) (by show 5 < 1000000; decide) fun z hz G2 u2 => ?_⟩
    obtain ⟨b, rfl⟩ : ∃ b : Int, z = .int b := by
      simp only [List.mem_cons, List.not_mem_nil, or_false] at hz
      rcases hz with rfl | rfl | rfl | rfl | rfl <;> exact ⟨_, rfl⟩
    try simp only [dRet, dRetN, dSeq, dAsg, dDrop, dIfS, dNext, dBreak, dCont, dPar, dSetL, dSetD, dFor, dVar, dC, dOp, dAndV, dOrV, dNotV, dAnd, dOr, dNot, dIf, dTest, dChain, dNil, dCons, dTup, dLst, dLstM, dStar, dNeg, dCB, dCall, dCallK, dMthT, dMth0, dLc, dYes, dISeq, dIStr, dIEnum, dIZip, dIRng1, dIRng2, dSl, dPart, dNoPart, dRaise, dDisp1, dNewD, dRevL, dRevT, dSortSet, dSortSetL, dIRng3, dGet2, dIKeys, dNewT, dSetT, dLstRg, dPar3, dLamA, dLamB, gdName, gdTup, gdCons, gdNil, dstart, dwipe, dAug, rdInt, rdSub, rdLt, rdLe, rdGt, rdGe, rdFdiv, rdMod, rdPow, at0, at1, at2, i30, i31, i32, set0, set1, set2, MO.lst.injEq, gup_same, gup_gup, ad_ii, ad_ss, ad_tt, ad_ll, mu_ii, mu_li, mu_ti, ix_t, ix_l, ix_s, ix_r, ix_w, ln_t, ln_l, ln_s, ln_w, ln_r, sr_t, sr_l, sr_s, sr_r, sl_t, sl_l, sl_s, sl_r, sl_w, tu_t, tu_l, tu_r, li_t, li_l, li_r, lm_t, lm_l, mx2, mn2, ab1, in1, is2, rdIsB, rdNotB, rdIsN, rdNotN, TD.isNon, List.map_cons, List.map_nil, List.length_cons, List.length_nil, List.replicate_succ, List.replicate_zero, List.cons_append, List.nil_append, List.append_nil, Nat.zero_add, Nat.reduceAdd, Nat.reduceSub, Nat.sub_self, Nat.add_sub_cancel, List.getElem?_cons_zero, List.getElem?_cons_succ, List.getElem?_nil, List.set_cons_zero, List.set_cons_succ, List.set_nil, Option.some.injEq, D.int.injEq, D.bl.injEq, D.str.injEq, D.ref.injEq, D.ty.injEq, D.tup.injEq, D.lst.injEq, List.cons.injEq, and_true, true_and, ex_two, ex_two', exists_eq_left', exists_eq_left, exists_and_left, exists_and_right, exists_const, exists_eq_right, exists_eq_right', Bool.not_true, Bool.not_false, if_true, if_false, Bool.false_eq_true, reduceCtorEq, false_and, and_false, decide_true, decide_false, List.length_map]
    rw [cutX_map frD c none (some (r : Int)), cutX_map frD c (some (r : Int)) none]
    refine dComp_map (fun d => match d with | .tup [.int i, .int f] => .tup [.int i, .int (f + b)] | _ => .non) trivial (fun d hd K1 k1 => ?_) ?_
    · obtain ⟨p, _, rfl⟩ := List.mem_map.mp hd
      simp only [frD, dRet, dRetN, dSeq, dAsg, dDrop, dIfS, dNext, dBreak, dCont, dPar, dSetL, dSetD, dFor, dVar, dC, dOp, dAndV, dOrV, dNotV, dAnd, dOr, dNot, dIf, dTest, dChain, dNil, dCons, dTup, dLst, dLstM, dStar, dNeg, dCB, dCall, dCallK, dMthT, dMth0, dLc, dYes, dISeq, dIStr, dIEnum, dIZip, dIRng1, dIRng2, dSl, dPart, dNoPart, dRaise, dDisp1, dNewD, dRevL, dRevT, dSortSet, dSortSetL, dIRng3, dGet2, dIKeys, dNewT, dSetT, dLstRg, dPar3, dLamA, dLamB, gdName, gdTup, gdCons, gdNil, dstart, dwipe, dAug, rdInt, rdSub, rdLt, rdLe, rdGt, rdGe, rdFdiv, rdMod, rdPow, at0, at1, at2, i30, i31, i32, set0, set1, set2, MO.lst.injEq, gup_same, gup_gup, ad_ii, ad_ss, ad_tt, ad_ll, mu_ii, mu_li, mu_ti, ix_t, ix_l, ix_s, ix_r, ix_w, ln_t, ln_l, ln_s, ln_w, ln_r, sr_t, sr_l, sr_s, sr_r, sl_t, sl_l, sl_s, sl_r, sl_w, tu_t, tu_l, tu_r, li_t, li_l, li_r, lm_t, lm_l, mx2, mn2, ab1, in1, is2, rdIsB, rdNotB, rdIsN, rdNotN, TD.isNon, List.map_cons, List.map_nil, List.length_cons, List.length_nil, List.replicate_succ, List.replicate_zero, List.cons_append, List.nil_append, List.append_nil, Nat.zero_add, Nat.reduceAdd, Nat.reduceSub, Nat.sub_self, Nat.add_sub_cancel, List.getElem?_cons_zero, List.getElem?_cons_succ, List.getElem?_nil, List.set_cons_zero, List.set_cons_succ, List.set_nil, Option.some.injEq, D.int.injEq, D.bl.injEq, D.str.injEq, D.ref.injEq, D.ty.injEq, D.tup.injEq, D.lst.injEq, List.cons.injEq, and_true, true_and, ex_two, ex_two', exists_eq_left', exists_eq_left, exists_and_left, exists_and_right, exists_const, exists_eq_right, exists_eq_right', Bool.not_true, Bool.not_false, if_true, if_false, Bool.false_eq_true, reduceCtorEq, false_and, and_false, decide_true, decide_false] at k1 ⊢
      exact ⟨sz _ (by omega), k1⟩
    · have l1 := len_cutX c none (some (r : Int))
      have l2 := len_cutX c (some (r : Int)) none
      have l3 := len_cutX (c.map frD) (some ((r : Int) + 1)) none
      have l4 := len_cutX (c.map frD) none (some (r : Int))
      rw [List.length_map] at l3 l4
      rw [List.nil_append]
      try simp only [dRet, dRetN, dSeq, dAsg, dDrop, dIfS, dNext, dBreak, dCont, dPar, dSetL, dSetD, dFor, dVar, dC, dOp, dAndV, dOrV, dNotV, dAnd, dOr, dNot, dIf, dTest, dChain, dNil, dCons, dTup, dLst, dLstM, dStar, dNeg, dCB, dCall, dCallK, dMthT, dMth0, dLc, dYes, dISeq, dIStr, dIEnum, dIZip, dIRng1, dIRng2, dSl, dPart, dNoPart, dRaise, dDisp1, dNewD, dRevL, dRevT, dSortSet, dSortSetL, dIRng3, dGet2, dIKeys, dNewT, dSetT, dLstRg, dPar3, dLamA, dLamB, gdName, gdTup, gdCons, gdNil, dstart, dwipe, dAug, rdInt, rdSub, rdLt, rdLe, rdGt, rdGe, rdFdiv, rdMod, rdPow, at0, at1, at2, i30, i31, i32, set0, set1, set2, MO.lst.injEq, gup_same, gup_gup, ad_ii, ad_ss, ad_tt, ad_ll, mu_ii, mu_li, mu_ti, ix_t, ix_l, ix_s, ix_r, ix_w, ln_t, ln_l, ln_s, ln_w, ln_r, sr_t, sr_l, sr_s, sr_r, sl_t, sl_l, sl_s, sl_r, sl_w, tu_t, tu_l, tu_r, li_t, li_l, li_r, lm_t, lm_l, mx2, mn2, ab1, in1, is2, rdIsB, rdNotB, rdIsN, rdNotN, TD.isNon, List.map_cons, List.map_nil, List.length_cons, List.length_nil, List.replicate_succ, List.replicate_zero, List.cons_append, List.nil_append, List.append_nil, Nat.zero_add, Nat.reduceAdd, Nat.reduceSub, Nat.sub_self, Nat.add_sub_cancel, List.getElem?_cons_zero, List.getElem?_cons_succ, List.getElem?_nil, List.set_cons_zero, List.set_cons_succ, List.set_nil, Option.some.injEq, D.int.injEq, D.bl.injEq, D.str.injEq, D.ref.injEq, D.ty.injEq, D.tup.injEq, D.lst.injEq, List.cons.injEq, and_true, true_and, ex_two, ex_two', exists_eq_left', exists_eq_left, exists_and_left, exists_and_right, exists_const, exists_eq_right, exists_eq_right', Bool.not_true, Bool.not_false, if_true, if_false, Bool.false_eq_true, reduceCtorEq, false_and, and_false, decide_true, decide_false, List.length_map]
      repeat refine and_sz (by omega) ?_
      refine pick_of (u1.trans u2).2 (by omega) (by show 0 < 9; decide) (by show 9 < 1000000; decide) fun z hz G3 u3 => ?_
      refine q z G3 ?_ (((u1.trans u2).trans u3).mono (by omega))
      have isF : ∀ d ∈ c.map frD, ∃ a b : D, d = .tup [a, b] ∧ pureN 58 a = true ∧ pureN 58 b = true := fun d hd => by
        obtain ⟨p, _, rfl⟩ := List.mem_map.mp hd
        exact ⟨_, _, rfl, rfl, rfl⟩
      have isC : ∀ lo hi, ∀ d ∈ (cutX c lo hi).map frD, ∃ a b : D, d = .tup [a, b] ∧ pureN 58 a = true ∧ pureN 58 b = true := fun lo hi d hd => by
        obtain ⟨p, _, rfl⟩ := List.mem_map.mp hd
        exact ⟨_, _, rfl, rfl, rfl⟩
      have later : Pur (.tup ((cutX c none (some (r : Int))).map frD ++ ((cutX c (some (r : Int)) none).map frD).map fun d => match d with | .tup [.int i, .int f] => .tup [.int i, .int (f + b)] | _ => .non)) := by
        refine pur_conv (c := c) fun d hd => ?_
        rcases List.mem_append.mp hd with hd | hd
        · exact isC _ _ d hd
        · obtain ⟨e, he, rfl⟩ := List.mem_map.mp hd
          obtain ⟨p, _, rfl⟩ := List.mem_map.mp he
          exact ⟨_, _, rfl, rfl, rfl⟩
      simp only [List.mem_cons, List.not_mem_nil, or_false] at hz
      rcases hz with rfl | rfl | rfl | rfl | rfl | rfl | rfl | rfl | rfl
      · exact later
      · exact later
      · refine pur_conv (c := c) fun d hd => ?_
        rcases List.mem_append.mp hd with hd | hd
        · exact isC _ _ d hd
        · exact isF d (mem_cutX hd)
      · exact pur_conv (c := c) fun d hd => isF d (List.mem_reverse.mp hd)
      · exact pur_conv (c := c) isF
      · rfl
      · exact pur_conv (c := c) (isC _ _)
      · refine pur_tupI fun d hd => ?_
        rcases List.mem_append.mp hd with hd | hd
        · obtain ⟨p, _, rfl⟩ := List.mem_map.mp hd
          rfl
        · rw [List.mem_singleton.mp hd]; rfl
      · refine pur_tupI fun d hd => ?_
        rcases List.mem_append.mp hd with hd | hd
        · obtain ⟨p, _, rfl⟩ := List.mem_map.mp hd
          rfl
        · rw [List.mem_singleton.mp hd]; rfl
  · exact h.elim
end K06
namespace K06
open PySem L2 TD
theorem no_trs {v : D} (h : trsB v = false) {ts : Trucks} (e : v = trsD ts) (w : WTs ts) : False := by
  rw [e, trsB_trs w] at h
  cases h
theorem isIn_int {i lo hi : Int} (h1 : lo ≤ i) (h2 : i ≤ hi) (h : isIn (.int i) lo hi = false) : False := by
  have : isIn (.int i) lo hi = true := by unfold isIn; simp [h1, h2]
  rw [this] at h
  cases h
theorem bridge_no {A : Ad} {v g s : D} {G : GH} {x : XD} {K : Trucks → Int → Int → Prop} (h1 : Pur v) (h2 : Pur g) (h3 : Pur s) (h : trsB v = false) (q : Rfs A x G "trucks") : Bridge A x G v g s K :=
  ⟨h1, h2, h3, fun _ => q, fun ts e w => (no_trs h e w).elim⟩
theorem bridge_noG {A : Ad} {ts : Trucks} {g s : D} {G : GH} {x : XD} {K : Trucks → Int → Int → Prop} (w : WTs ts) (h2 : Pur g) (h3 : Pur s) (h : isIn g 1 20 = false) (q : Rfs A x G "gap") : Bridge A x G (trsD ts) g s K :=
  ⟨pur_trs ts, h2, h3, fun z => (no_trs z rfl w).elim, fun ts' e w' => ⟨fun _ => q, fun gap eg a b => (isIn_int a b (by rw [← eg]; exact h)).elim⟩⟩
theorem bridge_noS {A : Ad} {ts : Trucks} {gap : Int} {s : D} {G : GH} {x : XD} {K : Trucks → Int → Int → Prop} (w : WTs ts) (g1 : 1 ≤ gap) (g2 : gap ≤ 20) (h3 : Pur s) (h : isIn s 0 100 = false) (q : Rfs A x G "span") : Bridge A x G (trsD ts) (.int gap) s K :=
  ⟨pur_trs ts, rfl, h3, fun z => (no_trs z rfl w).elim, fun ts' e w' => ⟨fun z => (isIn_int g1 g2 z).elim, fun gap' eg a b => ⟨fun _ => q, fun span es c d => (isIn_int c d (by rw [← es]; exact h)).elim⟩⟩⟩
theorem bridge_ok {A : Ad} {ts : Trucks} {gap span : Int} {G : GH} {x : XD} {K : Trucks → Int → Int → Prop} (w : WTs ts) (g1 : 1 ≤ gap) (g2 : gap ≤ 20) (s1 : 0 ≤ span) (s2 : span ≤ 100) (k : K ts gap span) : Bridge A x G (trsD ts) (.int gap) (.int span) K :=
  ⟨pur_trs ts, rfl, rfl, fun z => (no_trs z rfl w).elim, fun ts' e w' => by
    cases trsD_inj e
    exact ⟨fun z => (isIn_int g1 g2 z).elim, fun gap' eg a b => by
      cases eg
      exact ⟨fun z => (isIn_int s1 s2 z).elim, fun span' es c d => by cases es; exact k⟩⟩⟩
theorem load_no {A : Ad} {v s f : D} {G : GH} {Q : DK} {x : XD} (h1 : Pur v) (h2 : Pur s) (h3 : Pur f) (h : trsB v = false) (q : Rfs A x G "trucks") : sp_load A [v, s, f] G Q x := ⟨h1, h2, h3, fun _ => q, fun ts e w => (no_trs h e w).elim⟩
theorem load_noS {A : Ad} {ts : Trucks} {s f : D} {G : GH} {Q : DK} {x : XD} (w : WTs ts) (h2 : Pur s) (h3 : Pur f) (h : isIn s 0 100 = false) (q : Rfs A x G "span") : sp_load A [trsD ts, s, f] G Q x :=
  ⟨pur_trs ts, h2, h3, fun z => (no_trs z rfl w).elim, fun ts' e w' => ⟨fun _ => q, fun span es c d => (isIn_int c d (by rw [← es]; exact h)).elim⟩⟩
theorem load_noF {A : Ad} {ts : Trucks} {span : Int} {f : D} {G : GH} {Q : DK} {x : XD} (w : WTs ts) (s1 : 0 ≤ span) (s2 : span ≤ 100) (h3 : Pur f) (h : ∀ n, frB n f = false) (q : Rfs A x G "fronts") : sp_load A [trsD ts, .int span, f] G Q x :=
  ⟨pur_trs ts, rfl, h3, fun z => (no_trs z rfl w).elim, fun ts' e w' => ⟨fun z => (isIn_int s1 s2 z).elim, fun span' es c d => ⟨fun _ => q, fun fs ef hf _ => by rw [h] at hf; cases hf⟩⟩⟩
theorem least_noS {A : Ad} {ts : Trucks} {s l : D} {G : GH} {Q : DK} {x : XD} (w : WTs ts) (h2 : Pur s) (h3 : Pur l) (h : isIn s 0 100 = false) (q : Rfs A x G "span") : sp_least_gap A [trsD ts, s, l] G Q x :=
  ⟨pur_trs ts, h2, h3, fun z => (no_trs z rfl w).elim, fun ts' e w' => ⟨fun _ => q, fun span es c d => (isIn_int c d (by rw [← es]; exact h)).elim⟩⟩
theorem least_noL {A : Ad} {ts : Trucks} {span : Int} {l : D} {G : GH} {Q : DK} {x : XD} (w : WTs ts) (s1 : 0 ≤ span) (s2 : span ≤ 100) (h3 : Pur l) (h : isIn l 1 10000 = false) (q : Rfs A x G "limit") : sp_least_gap A [trsD ts, .int span, l] G Q x :=
  ⟨pur_trs ts, rfl, h3, fun z => (no_trs z rfl w).elim, fun ts' e w' => ⟨fun z => (isIn_int s1 s2 z).elim, fun span' es c d => ⟨fun _ => q, fun limit el a b => (isIn_int a b (by rw [← el]; exact h)).elim⟩⟩⟩
def sp__law_refuses (A : Ad) : SpD := fun zs G Q _ => match zs with
  | [.ref a, v, .int gap, .int span] => ∃ m ts, v = trsD ts ∧ WTs ts ∧ 1 ≤ gap ∧ gap ≤ 20 ∧ 0 ≤ span ∧ span ≤ 100 ∧ Dc G a m ∧ m ≤ 500000 ∧ G A.t_law_refuses = some (.tab "_law_refuses.<locals>.<lambda>") ∧ ∀ G', Upd a (m + 3) G G' → Q (.bl true) G'
  | _ => False
theorem len__law_refuses {A : Ad} {zs : List D} {G : GH} {Q : DK} {x : XD} (h : sp__law_refuses A zs G Q x) : zs.length = 4 := by
  unfold sp__law_refuses at h
  split at h <;> first | rfl | exact h.elim
def ds__law_refuses (A : Ad) : DS := dSeq (dAsg (dCall (sp__law_pick A) (dCons (dVar 0) (dCons (dLst (dCons (dC .non) (dCons (dTup dNil) (dCons (dCB rdList (dCons (dVar 1) dNil)) (dCons (dOp rdMul (dVar 1) (dC (.int 5))) (dCons (dTup (dCons (dTup (dCons (dC (.int 0)) (dCons (dTup (dCons (dTup (dCons (dC (.int 0)) (dCons (dC (.int 1)) dNil))) dNil)) dNil))) dNil)) (dCons (dTup (dCons (dTup (dCons (dC (.int 31)) (dCons (dTup (dCons (dTup (dCons (dC (.int 0)) (dCons (dC (.int 1)) dNil))) dNil)) dNil))) dNil)) (dCons (dTup (dCons (dTup (dCons (dC (.int 5)) (dCons (dTup dNil) dNil))) dNil)) (dCons (dTup (dCons (dTup (dCons (dC (.int 5)) (dCons (dTup (dCons (dTup (dCons (dC (.int 6)) (dCons (dC (.int 1)) dNil))) dNil)) dNil))) dNil)) (dCons (dTup (dCons (dTup (dCons (dC (.int 5)) (dCons (dTup (dCons (dTup (dCons (dC (.int 0)) (dCons (dC (.int 51)) dNil))) dNil)) dNil))) dNil)) (dCons (dTup (dCons (dTup (dCons (dC (.int 5)) (dCons (dTup (dCons (dTup (dCons (dC (.int 2)) (dCons (dC (.int 1)) dNil))) (dCons (dTup (dCons (dC (.int 2)) (dCons (dC (.int 1)) dNil))) dNil))) dNil))) dNil)) dNil))))))))))) dNil))) (gdName 4)) (dSeq (dAsg (dTup (dCons (dCall (sp__law_pick A) (dCons (dVar 0) (dCons (dLst (dCons (dC (.int 0)) (dCons (dC (.int 21)) (dCons (dC .non) (dCons (dC (.bl true)) dNil))))) dNil))) (dCons (dCall (sp__law_pick A) (dCons (dVar 0) (dCons (dLst (dCons (dNeg (dC (.int 1))) (dCons (dC (.int 101)) (dCons (dC .non) (dCons (dC (.bl true)) dNil))))) dNil))) dNil))) (gdTup (gdCons (gdName 5) (gdCons (gdName 6) gdNil)) 2)) (dSeq (dAsg (dLst (dCons (dLamA A.cBad A.t_law_refuses "_law_refuses.<locals>.<lambda>" "name" (dCall (sp_heaviest A) (dCons (dVar 4) (dCons (dVar 5) (dCons (dVar 6) dNil))))) (dCons (dLamA A.cBad A.t_law_refuses "_law_refuses.<locals>.<lambda>" "name" (dCall (sp_convoy A) (dCons (dVar 1) (dCons (dVar 5) (dCons (dVar 6) dNil))))) (dCons (dLamA A.cBad A.t_law_refuses "_law_refuses.<locals>.<lambda>" "name" (dCall (sp_heaviest A) (dCons (dVar 1) (dCons (dVar 2) (dCons (dVar 6) dNil))))) (dCons (dLamA A.cBad A.t_law_refuses "_law_refuses.<locals>.<lambda>" "name" (dCall (sp_is_convoy A) (dCons (dVar 4) (dCons (dVar 2) (dCons (dVar 3) (dCons (dTup dNil) dNil)))))) dNil))))) (gdName 7)) (dSeq (dAsg (dOp rdAdd (dVar 7) (dLst (dCons (dLamA A.cBad A.t_law_refuses "_law_refuses.<locals>.<lambda>" "name" (dCall (sp_load A) (dCons (dVar 4) (dCons (dVar 6) (dCons (dC .non) dNil))))) (dCons (dLamA A.cBad A.t_law_refuses "_law_refuses.<locals>.<lambda>" "name" (dCall (sp_load A) (dCons (dVar 1) (dCons (dVar 6) (dCons (dC .non) dNil))))) (dCons (dLamA A.cBad A.t_law_refuses "_law_refuses.<locals>.<lambda>" "name" (dCall (sp_load A) (dCons (dVar 1) (dCons (dVar 3) (dCons (dTup (dCons (dTup (dCons (dC (.int 0)) (dCons (dC (.int 201)) dNil))) dNil)) dNil))))) dNil))))) (gdName 7)) (dRet (dOp rdEq (dOp rdAdd (dVar 7) (dLst (dCons (dLamA A.cBad A.t_law_refuses "_law_refuses.<locals>.<lambda>" "name" (dCall (sp_least_gap A) (dCons (dVar 1) (dCons (dVar 6) (dCons (dC (.int 0)) dNil))))) (dCons (dLamA A.cBad A.t_law_refuses "_law_refuses.<locals>.<lambda>" "name" (dCall (sp_least_gap A) (dCons (dVar 1) (dCons (dVar 3) (dCons (dC (.int 0)) dNil))))) dNil)))) (dLst (dCons (dC (.str "trucks")) (dCons (dC (.str "gap")) (dCons (dC (.str "span")) (dCons (dC (.str "trucks")) (dCons (dC (.str "trucks")) (dCons (dC (.str "span")) (dCons (dC (.str "fronts")) (dCons (dC (.str "span")) (dCons (dC (.str "limit")) dNil)))))))))))))))
def N__law_refuses : List PySem.Str := ["dice", "trucks", "gap", "span", "bad", "odd", "wrong", "told"]
theorem pur_five {ts : Trucks} (n : Nat) : Pur (.tup (List.replicate n (ts.map trD)).flatten) := pur_tupI fun d hd => by
  obtain ⟨l, hl, hd⟩ := List.mem_flatten.mp hd
  rw [(List.mem_replicate.mp hl).2] at hd
  have h : (ts.map trD).all (pureN 59) = true := pur_trs ts
  exact List.all_eq_true.mp h d hd
theorem read__law_refuses {A : Ad} {zs : List D} {G : GH} {Q : DK} {x : XD} (h : sp__law_refuses A zs G Q x) : ds__law_refuses A { nx := fun _ G' => Q .non G', rt := Q, xx := fun _ => x } (dstart N__law_refuses zs) G := by
  unfold sp__law_refuses at h
  split at h
  · rename_i a v gap span
    obtain ⟨m, ts, rfl, w, g1, g2, s1, s2, hc, hm, hT, q⟩ := h
    have n4 := w.n4
    have n1 := w.n1
    have hne : A.t_law_refuses ≠ a := fun z => by
      obtain ⟨l, g, _⟩ := hc
      rw [← z, hT] at g
      cases g
    unfold N__law_refuses ds__law_refuses trsD
    simp only [dRet, dRetN, dSeq, dAsg, dDrop, dIfS, dNext, dBreak, dCont, dPar, dSetL, dSetD, dFor, dVar, dC, dOp, dAndV, dOrV, dNotV, dAnd, dOr, dNot, dIf, dTest, dChain, dNil, dCons, dTup, dLst, dLstM, dStar, dNeg, dCB, dCall, dCallK, dMthT, dMth0, dLc, dYes, dISeq, dIStr, dIEnum, dIZip, dIRng1, dIRng2, dSl, dPart, dNoPart, dRaise, dDisp1, dNewD, dRevL, dRevT, dSortSet, dSortSetL, dIRng3, dGet2, dIKeys, dNewT, dSetT, dLstRg, dPar3, gdName, gdTup, gdCons, gdNil, dstart, dwipe, dAug, rdInt, rdSub, rdLt, rdLe, rdGt, rdGe, rdFdiv, rdMod, rdPow, at0, at1, at2, i30, i31, i32, set0, set1, set2, MO.lst.injEq, gup_same, gup_gup, ad_ii, ad_ss, ad_tt, ad_ll, mu_ii, mu_li, mu_ti, ix_t, ix_l, ix_s, ix_r, ix_w, ln_t, ln_l, ln_s, ln_w, ln_r, sr_t, sr_l, sr_s, sr_r, sl_t, sl_l, sl_s, sl_r, sl_w, tu_t, tu_l, tu_r, li_t, li_l, li_r, lm_t, lm_l, mx2, mn2, ab1, in1, is2, rdIsB, rdNotB, rdIsN, rdNotN, TD.isNon, List.map_cons, List.map_nil, List.length_cons, List.length_nil, List.replicate_succ, List.replicate_zero, List.cons_append, List.nil_append, List.append_nil, Nat.zero_add, Nat.reduceAdd, Nat.reduceSub, Nat.sub_self, Nat.add_sub_cancel, List.getElem?_cons_zero, List.getElem?_cons_succ, List.getElem?_nil, List.set_cons_zero, List.set_cons_succ, List.set_nil, Option.some.injEq, D.int.injEq, D.bl.injEq, D.str.injEq, D.ref.injEq, D.ty.injEq, D.tup.injEq, D.lst.injEq, List.cons.injEq, and_true, true_and, ex_two, ex_two', exists_eq_left', exists_eq_left, exists_and_left, exists_and_right, exists_const, exists_eq_right, exists_eq_right', Bool.not_true, Bool.not_false, if_true, if_false, Bool.false_eq_true, reduceCtorEq, false_and, and_false, decide_true, decide_false, List.length_map]
    repeat refine and_sz (by omega) ?_
    refine ⟨fun z => ?_, by omega, by omega, by omega, ?_⟩
    · have := congrArg List.length z
      rw [List.length_map] at this
      have h0 : ([] : List D).length = 0 := rfl
      omega
    repeat refine and_sz (by omega) ?_
    refine pick_of hc (by omega) (by show 0 < 10; decide) (by show 10 < 1000000; decide) fun z hz G1 u1 => ?_
    have bad : Pur z ∧ trsB z = false := by
      simp only [List.mem_cons, List.not_mem_nil, or_false] at hz
      rcases hz with rfl | rfl | rfl | rfl | rfl | rfl | rfl | rfl | rfl | rfl
      · exact ⟨rfl, rfl⟩
      · exact ⟨rfl, rfl⟩
      · exact ⟨pur_trs ts, rfl⟩
      · refine ⟨pur_five _, ?_⟩
        have hl : ¬ ((List.replicate (5 : Int).toNat (ts.map trD)).flatten.length ≤ 4) := by
          rw [List.length_flatten, List.map_replicate, List.sum_replicate_nat, List.length_map]
          show ¬ 5 * ts.length ≤ 4
          omega
        unfold trsB
        simp only [hl, decide_false, Bool.and_false, Bool.false_and]
      · exact ⟨rfl, by decide⟩
      · exact ⟨rfl, by decide⟩
      · exact ⟨rfl, by decide⟩
      · exact ⟨rfl, by decide⟩
      · exact ⟨rfl, by decide⟩
      · exact ⟨rfl, by decide⟩
    obtain ⟨hp, hb⟩ := bad
    try simp only [dRet, dRetN, dSeq, dAsg, dDrop, dIfS, dNext, dBreak, dCont, dPar, dSetL, dSetD, dFor, dVar, dC, dOp, dAndV, dOrV, dNotV, dAnd, dOr, dNot, dIf, dTest, dChain, dNil, dCons, dTup, dLst, dLstM, dStar, dNeg, dCB, dCall, dCallK, dMthT, dMth0, dLc, dYes, dISeq, dIStr, dIEnum, dIZip, dIRng1, dIRng2, dSl, dPart, dNoPart, dRaise, dDisp1, dNewD, dRevL, dRevT, dSortSet, dSortSetL, dIRng3, dGet2, dIKeys, dNewT, dSetT, dLstRg, dPar3, gdName, gdTup, gdCons, gdNil, dstart, dwipe, dAug, rdInt, rdSub, rdLt, rdLe, rdGt, rdGe, rdFdiv, rdMod, rdPow, at0, at1, at2, i30, i31, i32, set0, set1, set2, MO.lst.injEq, gup_same, gup_gup, ad_ii, ad_ss, ad_tt, ad_ll, mu_ii, mu_li, mu_ti, ix_t, ix_l, ix_s, ix_r, ix_w, ln_t, ln_l, ln_s, ln_w, ln_r, sr_t, sr_l, sr_s, sr_r, sl_t, sl_l, sl_s, sl_r, sl_w, tu_t, tu_l, tu_r, li_t, li_l, li_r, lm_t, lm_l, mx2, mn2, ab1, in1, is2, rdIsB, rdNotB, rdIsN, rdNotN, TD.isNon, List.map_cons, List.map_nil, List.length_cons, List.length_nil, List.replicate_succ, List.replicate_zero, List.cons_append, List.nil_append, List.append_nil, Nat.zero_add, Nat.reduceAdd, Nat.reduceSub, Nat.sub_self, Nat.add_sub_cancel, List.getElem?_cons_zero, List.getElem?_cons_succ, List.getElem?_nil, List.set_cons_zero, List.set_cons_succ, List.set_nil, Option.some.injEq, D.int.injEq, D.bl.injEq, D.str.injEq, D.ref.injEq, D.ty.injEq, D.tup.injEq, D.lst.injEq, List.cons.injEq, and_true, true_and, ex_two, ex_two', exists_eq_left', exists_eq_left, exists_and_left, exists_and_right, exists_const, exists_eq_right, exists_eq_right', Bool.not_true, Bool.not_false, if_true, if_false, Bool.false_eq_true, reduceCtorEq, false_and, and_false, decide_true, decide_false, List.length_map]
    repeat refine and_sz (by omega) ?_
    refine pick_of u1.2 (by omega) (by show 0 < 4; decide) (by show 4 < 1000000; decide) fun o ho G2 u2 => ?_
    have badO : Pur o ∧ isIn o 1 20 = false := by
      simp only [List.mem_cons, List.not_mem_nil, or_false] at ho
      rcases ho with rfl | rfl | rfl | rfl
      · exact ⟨rfl, by decide⟩
      · exact ⟨rfl, by decide⟩
      · exact ⟨rfl, rfl⟩
      · exact ⟨rfl, rfl⟩
    obtain ⟨hpo, hbo⟩ := badO
    try simp only [dRet, dRetN, dSeq, dAsg, dDrop, dIfS, dNext, dBreak, dCont, dPar, dSetL, dSetD, dFor, dVar, dC, dOp, dAndV, dOrV, dNotV, dAnd, dOr, dNot, dIf, dTest, dChain, dNil, dCons, dTup, dLst, dLstM, dStar, dNeg, dCB, dCall, dCallK, dMthT, dMth0, dLc, dYes, dISeq, dIStr, dIEnum, dIZip, dIRng1, dIRng2, dSl, dPart, dNoPart, dRaise, dDisp1, dNewD, dRevL, dRevT, dSortSet, dSortSetL, dIRng3, dGet2, dIKeys, dNewT, dSetT, dLstRg, dPar3, gdName, gdTup, gdCons, gdNil, dstart, dwipe, dAug, rdInt, rdSub, rdLt, rdLe, rdGt, rdGe, rdFdiv, rdMod, rdPow, at0, at1, at2, i30, i31, i32, set0, set1, set2, MO.lst.injEq, gup_same, gup_gup, ad_ii, ad_ss, ad_tt, ad_ll, mu_ii, mu_li, mu_ti, ix_t, ix_l, ix_s, ix_r, ix_w, ln_t, ln_l, ln_s, ln_w, ln_r, sr_t, sr_l, sr_s, sr_r, sl_t, sl_l, sl_s, sl_r, sl_w, tu_t, tu_l, tu_r, li_t, li_l, li_r, lm_t, lm_l, mx2, mn2, ab1, in1, is2, rdIsB, rdNotB, rdIsN, rdNotN, TD.isNon, List.map_cons, List.map_nil, List.length_cons, List.length_nil, List.replicate_succ, List.replicate_zero, List.cons_append, List.nil_append, List.append_nil, Nat.zero_add, Nat.reduceAdd, Nat.reduceSub, Nat.sub_self, Nat.add_sub_cancel, List.getElem?_cons_zero, List.getElem?_cons_succ, List.getElem?_nil, List.set_cons_zero, List.set_cons_succ, List.set_nil, Option.some.injEq, D.int.injEq, D.bl.injEq, D.str.injEq, D.ref.injEq, D.ty.injEq, D.tup.injEq, D.lst.injEq, List.cons.injEq, and_true, true_and, ex_two, ex_two', exists_eq_left', exists_eq_left, exists_and_left, exists_and_right, exists_const, exists_eq_right, exists_eq_right', Bool.not_true, Bool.not_false, if_true, if_false, Bool.false_eq_true, reduceCtorEq, false_and, and_false, decide_true, decide_false, List.length_map]
    repeat refine and_sz (by omega) ?_
    refine pick_of (u1.trans u2).2 (by omega) (by show 0 < 4; decide) (by show 4 < 1000000; decide) fun w' hw G3 u3 => ?_
    have badW : Pur w' ∧ isIn w' 0 100 = false := by
      simp only [List.mem_cons, List.not_mem_nil, or_false] at hw
      rcases hw with rfl | rfl | rfl | rfl
      · exact ⟨rfl, by decide⟩
      · exact ⟨rfl, by decide⟩
      · exact ⟨rfl, rfl⟩
      · exact ⟨rfl, rfl⟩
    obtain ⟨hpw, hbw⟩ := badW
    have u4 := (u1.trans u2).trans u3
    have hT3 := u4.1 _ _ hne hT
    try simp only [dRet, dRetN, dSeq, dAsg, dDrop, dIfS, dNext, dBreak, dCont, dPar, dSetL, dSetD, dFor, dVar, dC, dOp, dAndV, dOrV, dNotV, dAnd, dOr, dNot, dIf, dTest, dChain, dNil, dCons, dTup, dLst, dLstM, dStar, dNeg, dCB, dCall, dCallK, dMthT, dMth0, dLc, dYes, dISeq, dIStr, dIEnum, dIZip, dIRng1, dIRng2, dSl, dPart, dNoPart, dRaise, dDisp1, dNewD, dRevL, dRevT, dSortSet, dSortSetL, dIRng3, dGet2, dIKeys, dNewT, dSetT, dLstRg, dPar3, gdName, gdTup, gdCons, gdNil, dstart, dwipe, dAug, rdInt, rdSub, rdLt, rdLe, rdGt, rdGe, rdFdiv, rdMod, rdPow, at0, at1, at2, i30, i31, i32, set0, set1, set2, MO.lst.injEq, gup_same, gup_gup, ad_ii, ad_ss, ad_tt, ad_ll, mu_ii, mu_li, mu_ti, ix_t, ix_l, ix_s, ix_r, ix_w, ln_t, ln_l, ln_s, ln_w, ln_r, sr_t, sr_l, sr_s, sr_r, sl_t, sl_l, sl_s, sl_r, sl_w, tu_t, tu_l, tu_r, li_t, li_l, li_r, lm_t, lm_l, mx2, mn2, ab1, in1, is2, rdIsB, rdNotB, rdIsN, rdNotN, TD.isNon, List.map_cons, List.map_nil, List.length_cons, List.length_nil, List.replicate_succ, List.replicate_zero, List.cons_append, List.nil_append, List.append_nil, Nat.zero_add, Nat.reduceAdd, Nat.reduceSub, Nat.sub_self, Nat.add_sub_cancel, List.getElem?_cons_zero, List.getElem?_cons_succ, List.getElem?_nil, List.set_cons_zero, List.set_cons_succ, List.set_nil, Option.some.injEq, D.int.injEq, D.bl.injEq, D.str.injEq, D.ref.injEq, D.ty.injEq, D.tup.injEq, D.lst.injEq, List.cons.injEq, and_true, true_and, ex_two, ex_two', exists_eq_left', exists_eq_left, exists_and_left, exists_and_right, exists_const, exists_eq_right, exists_eq_right', Bool.not_true, Bool.not_false, if_true, if_false, Bool.false_eq_true, reduceCtorEq, false_and, and_false, decide_true, decide_false, List.length_map]
    repeat refine and_sz (by omega) ?_
    refine ⟨hT3, ?_⟩
    simp only [dRet, dRetN, dSeq, dAsg, dDrop, dIfS, dNext, dBreak, dCont, dPar, dSetL, dSetD, dFor, dVar, dC, dOp, dAndV, dOrV, dNotV, dAnd, dOr, dNot, dIf, dTest, dChain, dNil, dCons, dTup, dLst, dLstM, dStar, dNeg, dCB, dCall, dCallK, dMthT, dMth0, dLc, dYes, dISeq, dIStr, dIEnum, dIZip, dIRng1, dIRng2, dSl, dPart, dNoPart, dRaise, dDisp1, dNewD, dRevL, dRevT, dSortSet, dSortSetL, dIRng3, dGet2, dIKeys, dNewT, dSetT, dLstRg, dPar3, gdName, gdTup, gdCons, gdNil, dstart, dwipe, dAug, rdInt, rdSub, rdLt, rdLe, rdGt, rdGe, rdFdiv, rdMod, rdPow, at0, at1, at2, i30, i31, i32, set0, set1, set2, MO.lst.injEq, gup_same, gup_gup, ad_ii, ad_ss, ad_tt, ad_ll, mu_ii, mu_li, mu_ti, ix_t, ix_l, ix_s, ix_r, ix_w, ln_t, ln_l, ln_s, ln_w, ln_r, sr_t, sr_l, sr_s, sr_r, sl_t, sl_l, sl_s, sl_r, sl_w, tu_t, tu_l, tu_r, li_t, li_l, li_r, lm_t, lm_l, mx2, mn2, ab1, in1, is2, rdIsB, rdNotB, rdIsN, rdNotN, TD.isNon, List.map_cons, List.map_nil, List.length_cons, List.length_nil, List.replicate_succ, List.replicate_zero, List.cons_append, List.nil_append, List.append_nil, Nat.zero_add, Nat.reduceAdd, Nat.reduceSub, Nat.sub_self, Nat.add_sub_cancel, List.getElem?_cons_zero, List.getElem?_cons_succ, List.getElem?_nil, List.set_cons_zero, List.set_cons_succ, List.set_nil, Option.some.injEq, D.int.injEq, D.bl.injEq, D.str.injEq, D.ref.injEq, D.ty.injEq, D.tup.injEq, D.lst.injEq, List.cons.injEq, and_true, true_and, ex_two, ex_two', exists_eq_left', exists_eq_left, exists_and_left, exists_and_right, exists_const, exists_eq_right, exists_eq_right', Bool.not_true, Bool.not_false, if_true, if_false, Bool.false_eq_true, reduceCtorEq, false_and, and_false, decide_true, decide_false]
    refine bridge_no hp hpo hpw hb ⟨rfl, _, rfl, ?_⟩
    refine ⟨hT3, ?_⟩
    simp only [dRet, dRetN, dSeq, dAsg, dDrop, dIfS, dNext, dBreak, dCont, dPar, dSetL, dSetD, dFor, dVar, dC, dOp, dAndV, dOrV, dNotV, dAnd, dOr, dNot, dIf, dTest, dChain, dNil, dCons, dTup, dLst, dLstM, dStar, dNeg, dCB, dCall, dCallK, dMthT, dMth0, dLc, dYes, dISeq, dIStr, dIEnum, dIZip, dIRng1, dIRng2, dSl, dPart, dNoPart, dRaise, dDisp1, dNewD, dRevL, dRevT, dSortSet, dSortSetL, dIRng3, dGet2, dIKeys, dNewT, dSetT, dLstRg, dPar3, gdName, gdTup, gdCons, gdNil, dstart, dwipe, dAug, rdInt, rdSub, rdLt, rdLe, rdGt, rdGe, rdFdiv, rdMod, rdPow, at0, at1, at2, i30, i31, i32, set0, set1, set2, MO.lst.injEq, gup_same, gup_gup, ad_ii, ad_ss, ad_tt, ad_ll, mu_ii, mu_li, mu_ti, ix_t, ix_l, ix_s, ix_r, ix_w, ln_t, ln_l, ln_s, ln_w, ln_r, sr_t, sr_l, sr_s, sr_r, sl_t, sl_l, sl_s, sl_r, sl_w, tu_t, tu_l, tu_r, li_t, li_l, li_r, lm_t, lm_l, mx2, mn2, ab1, in1, is2, rdIsB, rdNotB, rdIsN, rdNotN, TD.isNon, List.map_cons, List.map_nil, List.length_cons, List.length_nil, List.replicate_succ, List.replicate_zero, List.cons_append, List.nil_append, List.append_nil, Nat.zero_add, Nat.reduceAdd, Nat.reduceSub, Nat.sub_self, Nat.add_sub_cancel, List.getElem?_cons_zero, List.getElem?_cons_succ, List.getElem?_nil, List.set_cons_zero, List.set_cons_succ, List.set_nil, Option.some.injEq, D.int.injEq, D.bl.injEq, D.str.injEq, D.ref.injEq, D.ty.injEq, D.tup.injEq, D.lst.injEq, List.cons.injEq, and_true, true_and, ex_two, ex_two', exists_eq_left', exists_eq_left, exists_and_left, exists_and_right, exists_const, exists_eq_right, exists_eq_right', Bool.not_true, Bool.not_false, if_true, if_false, Bool.false_eq_true, reduceCtorEq, false_and, and_false, decide_true, decide_false]
    refine bridge_noG (ts := ts) w hpo hpw hbo ⟨rfl, _, rfl, ?_⟩
    refine ⟨hT3, ?_⟩
    simp only [dRet, dRetN, dSeq, dAsg, dDrop, dIfS, dNext, dBreak, dCont, dPar, dSetL, dSetD, dFor, dVar, dC, dOp, dAndV, dOrV, dNotV, dAnd, dOr, dNot, dIf, dTest, dChain, dNil, dCons, dTup, dLst, dLstM, dStar, dNeg, dCB, dCall, dCallK, dMthT, dMth0, dLc, dYes, dISeq, dIStr, dIEnum, dIZip, dIRng1, dIRng2, dSl, dPart, dNoPart, dRaise, dDisp1, dNewD, dRevL, dRevT, dSortSet, dSortSetL, dIRng3, dGet2, dIKeys, dNewT, dSetT, dLstRg, dPar3, gdName, gdTup, gdCons, gdNil, dstart, dwipe, dAug, rdInt, rdSub, rdLt, rdLe, rdGt, rdGe, rdFdiv, rdMod, rdPow, at0, at1, at2, i30, i31, i32, set0, set1, set2, MO.lst.injEq, gup_same, gup_gup, ad_ii, ad_ss, ad_tt, ad_ll, mu_ii, mu_li, mu_ti, ix_t, ix_l, ix_s, ix_r, ix_w, ln_t, ln_l, ln_s, ln_w, ln_r, sr_t, sr_l, sr_s, sr_r, sl_t, sl_l, sl_s, sl_r, sl_w, tu_t, tu_l, tu_r, li_t, li_l, li_r, lm_t, lm_l, mx2, mn2, ab1, in1, is2, rdIsB, rdNotB, rdIsN, rdNotN, TD.isNon, List.map_cons, List.map_nil, List.length_cons, List.length_nil, List.replicate_succ, List.replicate_zero, List.cons_append, List.nil_append, List.append_nil, Nat.zero_add, Nat.reduceAdd, Nat.reduceSub, Nat.sub_self, Nat.add_sub_cancel, List.getElem?_cons_zero, List.getElem?_cons_succ, List.getElem?_nil, List.set_cons_zero, List.set_cons_succ, List.set_nil, Option.some.injEq, D.int.injEq, D.bl.injEq, D.str.injEq, D.ref.injEq, D.ty.injEq, D.tup.injEq, D.lst.injEq, List.cons.injEq, and_true, true_and, ex_two, ex_two', exists_eq_left', exists_eq_left, exists_and_left, exists_and_right, exists_const, exists_eq_right, exists_eq_right', Bool.not_true, Bool.not_false, if_true, if_false, Bool.false_eq_true, reduceCtorEq, false_and, and_false, decide_true, decide_false]
    refine bridge_noS (ts := ts) w g1 g2 hpw hbw ⟨rfl, _, rfl, ?_⟩
    refine ⟨hT3, ?_⟩
    simp only [dRet, dRetN, dSeq, dAsg, dDrop, dIfS, dNext, dBreak, dCont, dPar, dSetL, dSetD, dFor, dVar, dC, dOp, dAndV, dOrV, dNotV, dAnd, dOr, dNot, dIf, dTest, dChain, dNil, dCons, dTup, dLst, dLstM, dStar, dNeg, dCB, dCall, dCallK, dMthT, dMth0, dLc, dYes, dISeq, dIStr, dIEnum, dIZip, dIRng1, dIRng2, dSl, dPart, dNoPart, dRaise, dDisp1, dNewD, dRevL, dRevT, dSortSet, dSortSetL, dIRng3, dGet2, dIKeys, dNewT, dSetT, dLstRg, dPar3, gdName, gdTup, gdCons, gdNil, dstart, dwipe, dAug, rdInt, rdSub, rdLt, rdLe, rdGt, rdGe, rdFdiv, rdMod, rdPow, at0, at1, at2, i30, i31, i32, set0, set1, set2, MO.lst.injEq, gup_same, gup_gup, ad_ii, ad_ss, ad_tt, ad_ll, mu_ii, mu_li, mu_ti, ix_t, ix_l, ix_s, ix_r, ix_w, ln_t, ln_l, ln_s, ln_w, ln_r, sr_t, sr_l, sr_s, sr_r, sl_t, sl_l, sl_s, sl_r, sl_w, tu_t, tu_l, tu_r, li_t, li_l, li_r, lm_t, lm_l, mx2, mn2, ab1, in1, is2, rdIsB, rdNotB, rdIsN, rdNotN, TD.isNon, List.map_cons, List.map_nil, List.length_cons, List.length_nil, List.replicate_succ, List.replicate_zero, List.cons_append, List.nil_append, List.append_nil, Nat.zero_add, Nat.reduceAdd, Nat.reduceSub, Nat.sub_self, Nat.add_sub_cancel, List.getElem?_cons_zero, List.getElem?_cons_succ, List.getElem?_nil, List.set_cons_zero, List.set_cons_succ, List.set_nil, Option.some.injEq, D.int.injEq, D.bl.injEq, D.str.injEq, D.ref.injEq, D.ty.injEq, D.tup.injEq, D.lst.injEq, List.cons.injEq, and_true, true_and, ex_two, ex_two', exists_eq_left', exists_eq_left, exists_and_left, exists_and_right, exists_const, exists_eq_right, exists_eq_right', Bool.not_true, Bool.not_false, if_true, if_false, Bool.false_eq_true, reduceCtorEq, false_and, and_false, decide_true, decide_false]
    repeat refine and_sz (by omega) ?_
    refine ⟨rfl, bridge_no hp rfl rfl hb ⟨rfl, _, rfl, ?_⟩⟩
    try simp only [dRet, dRetN, dSeq, dAsg, dDrop, dIfS, dNext, dBreak, dCont, dPar, dSetL, dSetD, dFor, dVar, dC, dOp, dAndV, dOrV, dNotV, dAnd, dOr, dNot, dIf, dTest, dChain, dNil, dCons, dTup, dLst, dLstM, dStar, dNeg, dCB, dCall, dCallK, dMthT, dMth0, dLc, dYes, dISeq, dIStr, dIEnum, dIZip, dIRng1, dIRng2, dSl, dPart, dNoPart, dRaise, dDisp1, dNewD, dRevL, dRevT, dSortSet, dSortSetL, dIRng3, dGet2, dIKeys, dNewT, dSetT, dLstRg, dPar3, gdName, gdTup, gdCons, gdNil, dstart, dwipe, dAug, rdInt, rdSub, rdLt, rdLe, rdGt, rdGe, rdFdiv, rdMod, rdPow, at0, at1, at2, i30, i31, i32, set0, set1, set2, MO.lst.injEq, gup_same, gup_gup, ad_ii, ad_ss, ad_tt, ad_ll, mu_ii, mu_li, mu_ti, ix_t, ix_l, ix_s, ix_r, ix_w, ln_t, ln_l, ln_s, ln_w, ln_r, sr_t, sr_l, sr_s, sr_r, sl_t, sl_l, sl_s, sl_r, sl_w, tu_t, tu_l, tu_r, li_t, li_l, li_r, lm_t, lm_l, mx2, mn2, ab1, in1, is2, rdIsB, rdNotB, rdIsN, rdNotN, TD.isNon, List.map_cons, List.map_nil, List.length_cons, List.length_nil, List.replicate_succ, List.replicate_zero, List.cons_append, List.nil_append, List.append_nil, Nat.zero_add, Nat.reduceAdd, Nat.reduceSub, Nat.sub_self, Nat.add_sub_cancel, List.getElem?_cons_zero, List.getElem?_cons_succ, List.getElem?_nil, List.set_cons_zero, List.set_cons_succ, List.set_nil, Option.some.injEq, D.int.injEq, D.bl.injEq, D.str.injEq, D.ref.injEq, D.ty.injEq, D.tup.injEq, D.lst.injEq, List.cons.injEq, and_true, true_and, ex_two, ex_two', exists_eq_left', exists_eq_left, exists_and_left, exists_and_right, exists_const, exists_eq_right, exists_eq_right', Bool.not_true, Bool.not_false, if_true, if_false, Bool.false_eq_true, reduceCtorEq, false_and, and_false, decide_true, decide_false]
    repeat refine and_sz (by omega) ?_
    refine ⟨hT3, ?_⟩
    simp only [dRet, dRetN, dSeq, dAsg, dDrop, dIfS, dNext, dBreak, dCont, dPar, dSetL, dSetD, dFor, dVar, dC, dOp, dAndV, dOrV, dNotV, dAnd, dOr, dNot, dIf, dTest, dChain, dNil, dCons, dTup, dLst, dLstM, dStar, dNeg, dCB, dCall, dCallK, dMthT, dMth0, dLc, dYes, dISeq, dIStr, dIEnum, dIZip, dIRng1, dIRng2, dSl, dPart, dNoPart, dRaise, dDisp1, dNewD, dRevL, dRevT, dSortSet, dSortSetL, dIRng3, dGet2, dIKeys, dNewT, dSetT, dLstRg, dPar3, gdName, gdTup, gdCons, gdNil, dstart, dwipe, dAug, rdInt, rdSub, rdLt, rdLe, rdGt, rdGe, rdFdiv, rdMod, rdPow, at0, at1, at2, i30, i31, i32, set0, set1, set2, MO.lst.injEq, gup_same, gup_gup, ad_ii, ad_ss, ad_tt, ad_ll, mu_ii, mu_li, mu_ti, ix_t, ix_l, ix_s, ix_r, ix_w, ln_t, ln_l, ln_s, ln_w, ln_r, sr_t, sr_l, sr_s, sr_r, sl_t, sl_l, sl_s, sl_r, sl_w, tu_t, tu_l, tu_r, li_t, li_l, li_r, lm_t, lm_l, mx2, mn2, ab1, in1, is2, rdIsB, rdNotB, rdIsN, rdNotN, TD.isNon, List.map_cons, List.map_nil, List.length_cons, List.length_nil, List.replicate_succ, List.replicate_zero, List.cons_append, List.nil_append, List.append_nil, Nat.zero_add, Nat.reduceAdd, Nat.reduceSub, Nat.sub_self, Nat.add_sub_cancel, List.getElem?_cons_zero, List.getElem?_cons_succ, List.getElem?_nil, List.set_cons_zero, List.set_cons_succ, List.set_nil, Option.some.injEq, D.int.injEq, D.bl.injEq, D.str.injEq, D.ref.injEq, D.ty.injEq, D.tup.injEq, D.lst.injEq, List.cons.injEq, and_true, true_and, ex_two, ex_two', exists_eq_left', exists_eq_left, exists_and_left, exists_and_right, exists_const, exists_eq_right, exists_eq_right', Bool.not_true, Bool.not_false, if_true, if_false, Bool.false_eq_true, reduceCtorEq, false_and, and_false, decide_true, decide_false]
    refine load_no hp hpw rfl hb ⟨rfl, _, rfl, ?_⟩
    refine ⟨hT3, ?_⟩
    simp only [dRet, dRetN, dSeq, dAsg, dDrop, dIfS, dNext, dBreak, dCont, dPar, dSetL, dSetD, dFor, dVar, dC, dOp, dAndV, dOrV, dNotV, dAnd, dOr, dNot, dIf, dTest, dChain, dNil, dCons, dTup, dLst, dLstM, dStar, dNeg, dCB, dCall, dCallK, dMthT, dMth0, dLc, dYes, dISeq, dIStr, dIEnum, dIZip, dIRng1, dIRng2, dSl, dPart, dNoPart, dRaise, dDisp1, dNewD, dRevL, dRevT, dSortSet, dSortSetL, dIRng3, dGet2, dIKeys, dNewT, dSetT, dLstRg, dPar3, gdName, gdTup, gdCons, gdNil, dstart, dwipe, dAug, rdInt, rdSub, rdLt, rdLe, rdGt, rdGe, rdFdiv, rdMod, rdPow, at0, at1, at2, i30, i31, i32, set0, set1, set2, MO.lst.injEq, gup_same, gup_gup, ad_ii, ad_ss, ad_tt, ad_ll, mu_ii, mu_li, mu_ti, ix_t, ix_l, ix_s, ix_r, ix_w, ln_t, ln_l, ln_s, ln_w, ln_r, sr_t, sr_l, sr_s, sr_r, sl_t, sl_l, sl_s, sl_r, sl_w, tu_t, tu_l, tu_r, li_t, li_l, li_r, lm_t, lm_l, mx2, mn2, ab1, in1, is2, rdIsB, rdNotB, rdIsN, rdNotN, TD.isNon, List.map_cons, List.map_nil, List.length_cons, List.length_nil, List.replicate_succ, List.replicate_zero, List.cons_append, List.nil_append, List.append_nil, Nat.zero_add, Nat.reduceAdd, Nat.reduceSub, Nat.sub_self, Nat.add_sub_cancel, List.getElem?_cons_zero, List.getElem?_cons_succ, List.getElem?_nil, List.set_cons_zero, List.set_cons_succ, List.set_nil, Option.some.injEq, D.int.injEq, D.bl.injEq, D.str.injEq, D.ref.injEq, D.ty.injEq, D.tup.injEq, D.lst.injEq, List.cons.injEq, and_true, true_and, ex_two, ex_two', exists_eq_left', exists_eq_left, exists_and_left, exists_and_right, exists_const, exists_eq_right, exists_eq_right', Bool.not_true, Bool.not_false, if_true, if_false, Bool.false_eq_true, reduceCtorEq, false_and, and_false, decide_true, decide_false]
    refine load_noS (ts := ts) w hpw rfl hbw ⟨rfl, _, rfl, ?_⟩
    refine ⟨hT3, ?_⟩
    simp only [dRet, dRetN, dSeq, dAsg, dDrop, dIfS, dNext, dBreak, dCont, dPar, dSetL, dSetD, dFor, dVar, dC, dOp, dAndV, dOrV, dNotV, dAnd, dOr, dNot, dIf, dTest, dChain, dNil, dCons, dTup, dLst, dLstM, dStar, dNeg, dCB, dCall, dCallK, dMthT, dMth0, dLc, dYes, dISeq, dIStr, dIEnum, dIZip, dIRng1, dIRng2, dSl, dPart, dNoPart, dRaise, dDisp1, dNewD, dRevL, dRevT, dSortSet, dSortSetL, dIRng3, dGet2, dIKeys, dNewT, dSetT, dLstRg, dPar3, gdName, gdTup, gdCons, gdNil, dstart, dwipe, dAug, rdInt, rdSub, rdLt, rdLe, rdGt, rdGe, rdFdiv, rdMod, rdPow, at0, at1, at2, i30, i31, i32, set0, set1, set2, MO.lst.injEq, gup_same, gup_gup, ad_ii, ad_ss, ad_tt, ad_ll, mu_ii, mu_li, mu_ti, ix_t, ix_l, ix_s, ix_r, ix_w, ln_t, ln_l, ln_s, ln_w, ln_r, sr_t, sr_l, sr_s, sr_r, sl_t, sl_l, sl_s, sl_r, sl_w, tu_t, tu_l, tu_r, li_t, li_l, li_r, lm_t, lm_l, mx2, mn2, ab1, in1, is2, rdIsB, rdNotB, rdIsN, rdNotN, TD.isNon, List.map_cons, List.map_nil, List.length_cons, List.length_nil, List.replicate_succ, List.replicate_zero, List.cons_append, List.nil_append, List.append_nil, Nat.zero_add, Nat.reduceAdd, Nat.reduceSub, Nat.sub_self, Nat.add_sub_cancel, List.getElem?_cons_zero, List.getElem?_cons_succ, List.getElem?_nil, List.set_cons_zero, List.set_cons_succ, List.set_nil, Option.some.injEq, D.int.injEq, D.bl.injEq, D.str.injEq, D.ref.injEq, D.ty.injEq, D.tup.injEq, D.lst.injEq, List.cons.injEq, and_true, true_and, ex_two, ex_two', exists_eq_left', exists_eq_left, exists_and_left, exists_and_right, exists_const, exists_eq_right, exists_eq_right', Bool.not_true, Bool.not_false, if_true, if_false, Bool.false_eq_true, reduceCtorEq, false_and, and_false, decide_true, decide_false]
    repeat refine and_sz (by omega) ?_
    refine load_noF (ts := ts) w s1 s2 rfl (fun n => by simp [frB, plB, isIn]) ⟨rfl, _, rfl, ?_⟩
    try simp only [dRet, dRetN, dSeq, dAsg, dDrop, dIfS, dNext, dBreak, dCont, dPar, dSetL, dSetD, dFor, dVar, dC, dOp, dAndV, dOrV, dNotV, dAnd, dOr, dNot, dIf, dTest, dChain, dNil, dCons, dTup, dLst, dLstM, dStar, dNeg, dCB, dCall, dCallK, dMthT, dMth0, dLc, dYes, dISeq, dIStr, dIEnum, dIZip, dIRng1, dIRng2, dSl, dPart, dNoPart, dRaise, dDisp1, dNewD, dRevL, dRevT, dSortSet, dSortSetL, dIRng3, dGet2, dIKeys, dNewT, dSetT, dLstRg, dPar3, gdName, gdTup, gdCons, gdNil, dstart, dwipe, dAug, rdInt, rdSub, rdLt, rdLe, rdGt, rdGe, rdFdiv, rdMod, rdPow, at0, at1, at2, i30, i31, i32, set0, set1, set2, MO.lst.injEq, gup_same, gup_gup, ad_ii, ad_ss, ad_tt, ad_ll, mu_ii, mu_li, mu_ti, ix_t, ix_l, ix_s, ix_r, ix_w, ln_t, ln_l, ln_s, ln_w, ln_r, sr_t, sr_l, sr_s, sr_r, sl_t, sl_l, sl_s, sl_r, sl_w, tu_t, tu_l, tu_r, li_t, li_l, li_r, lm_t, lm_l, mx2, mn2, ab1, in1, is2, rdIsB, rdNotB, rdIsN, rdNotN, TD.isNon, List.map_cons, List.map_nil, List.length_cons, List.length_nil, List.replicate_succ, List.replicate_zero, List.cons_append, List.nil_append, List.append_nil, Nat.zero_add, Nat.reduceAdd, Nat.reduceSub, Nat.sub_self, Nat.add_sub_cancel, List.getElem?_cons_zero, List.getElem?_cons_succ, List.getElem?_nil, List.set_cons_zero, List.set_cons_succ, List.set_nil, Option.some.injEq, D.int.injEq, D.bl.injEq, D.str.injEq, D.ref.injEq, D.ty.injEq, D.tup.injEq, D.lst.injEq, List.cons.injEq, and_true, true_and, ex_two, ex_two', exists_eq_left', exists_eq_left, exists_and_left, exists_and_right, exists_const, exists_eq_right, exists_eq_right', Bool.not_true, Bool.not_false, if_true, if_false, Bool.false_eq_true, reduceCtorEq, false_and, and_false, decide_true, decide_false]
    repeat refine and_sz (by omega) ?_
    refine ⟨hT3, ?_⟩
    simp only [dRet, dRetN, dSeq, dAsg, dDrop, dIfS, dNext, dBreak, dCont, dPar, dSetL, dSetD, dFor, dVar, dC, dOp, dAndV, dOrV, dNotV, dAnd, dOr, dNot, dIf, dTest, dChain, dNil, dCons, dTup, dLst, dLstM, dStar, dNeg, dCB, dCall, dCallK, dMthT, dMth0, dLc, dYes, dISeq, dIStr, dIEnum, dIZip, dIRng1, dIRng2, dSl, dPart, dNoPart, dRaise, dDisp1, dNewD, dRevL, dRevT, dSortSet, dSortSetL, dIRng3, dGet2, dIKeys, dNewT, dSetT, dLstRg, dPar3, gdName, gdTup, gdCons, gdNil, dstart, dwipe, dAug, rdInt, rdSub, rdLt, rdLe, rdGt, rdGe, rdFdiv, rdMod, rdPow, at0, at1, at2, i30, i31, i32, set0, set1, set2, MO.lst.injEq, gup_same, gup_gup, ad_ii, ad_ss, ad_tt, ad_ll, mu_ii, mu_li, mu_ti, ix_t, ix_l, ix_s, ix_r, ix_w, ln_t, ln_l, ln_s, ln_w, ln_r, sr_t, sr_l, sr_s, sr_r, sl_t, sl_l, sl_s, sl_r, sl_w, tu_t, tu_l, tu_r, li_t, li_l, li_r, lm_t, lm_l, mx2, mn2, ab1, in1, is2, rdIsB, rdNotB, rdIsN, rdNotN, TD.isNon, List.map_cons, List.map_nil, List.length_cons, List.length_nil, List.replicate_succ, List.replicate_zero, List.cons_append, List.nil_append, List.append_nil, Nat.zero_add, Nat.reduceAdd, Nat.reduceSub, Nat.sub_self, Nat.add_sub_cancel, List.getElem?_cons_zero, List.getElem?_cons_succ, List.getElem?_nil, List.set_cons_zero, List.set_cons_succ, List.set_nil, Option.some.injEq, D.int.injEq, D.bl.injEq, D.str.injEq, D.ref.injEq, D.ty.injEq, D.tup.injEq, D.lst.injEq, List.cons.injEq, and_true, true_and, ex_two, ex_two', exists_eq_left', exists_eq_left, exists_and_left, exists_and_right, exists_const, exists_eq_right, exists_eq_right', Bool.not_true, Bool.not_false, if_true, if_false, Bool.false_eq_true, reduceCtorEq, false_and, and_false, decide_true, decide_false]
    refine least_noS (ts := ts) w hpw rfl hbw ⟨rfl, _, rfl, ?_⟩
    refine ⟨hT3, ?_⟩
    simp only [dRet, dRetN, dSeq, dAsg, dDrop, dIfS, dNext, dBreak, dCont, dPar, dSetL, dSetD, dFor, dVar, dC, dOp, dAndV, dOrV, dNotV, dAnd, dOr, dNot, dIf, dTest, dChain, dNil, dCons, dTup, dLst, dLstM, dStar, dNeg, dCB, dCall, dCallK, dMthT, dMth0, dLc, dYes, dISeq, dIStr, dIEnum, dIZip, dIRng1, dIRng2, dSl, dPart, dNoPart, dRaise, dDisp1, dNewD, dRevL, dRevT, dSortSet, dSortSetL, dIRng3, dGet2, dIKeys, dNewT, dSetT, dLstRg, dPar3, gdName, gdTup, gdCons, gdNil, dstart, dwipe, dAug, rdInt, rdSub, rdLt, rdLe, rdGt, rdGe, rdFdiv, rdMod, rdPow, at0, at1, at2, i30, i31, i32, set0, set1, set2, MO.lst.injEq, gup_same, gup_gup, ad_ii, ad_ss, ad_tt, ad_ll, mu_ii, mu_li, mu_ti, ix_t, ix_l, ix_s, ix_r, ix_w, ln_t, ln_l, ln_s, ln_w, ln_r, sr_t, sr_l, sr_s, sr_r, sl_t, sl_l, sl_s, sl_r, sl_w, tu_t, tu_l, tu_r, li_t, li_l, li_r, lm_t, lm_l, mx2, mn2, ab1, in1, is2, rdIsB, rdNotB, rdIsN, rdNotN, TD.isNon, List.map_cons, List.map_nil, List.length_cons, List.length_nil, List.replicate_succ, List.replicate_zero, List.cons_append, List.nil_append, List.append_nil, Nat.zero_add, Nat.reduceAdd, Nat.reduceSub, Nat.sub_self, Nat.add_sub_cancel, List.getElem?_cons_zero, List.getElem?_cons_succ, List.getElem?_nil, List.set_cons_zero, List.set_cons_succ, List.set_nil, Option.some.injEq, D.int.injEq, D.bl.injEq, D.str.injEq, D.ref.injEq, D.ty.injEq, D.tup.injEq, D.lst.injEq, List.cons.injEq, and_true, true_and, ex_two, ex_two', exists_eq_left', exists_eq_left, exists_and_left, exists_and_right, exists_const, exists_eq_right, exists_eq_right', Bool.not_true, Bool.not_false, if_true, if_false, Bool.false_eq_true, reduceCtorEq, false_and, and_false, decide_true, decide_false]
    refine least_noL (ts := ts) w s1 s2 rfl (by decide) ⟨rfl, _, rfl, ?_⟩
    try simp only [dRet, dRetN, dSeq, dAsg, dDrop, dIfS, dNext, dBreak, dCont, dPar, dSetL, dSetD, dFor, dVar, dC, dOp, dAndV, dOrV, dNotV, dAnd, dOr, dNot, dIf, dTest, dChain, dNil, dCons, dTup, dLst, dLstM, dStar, dNeg, dCB, dCall, dCallK, dMthT, dMth0, dLc, dYes, dISeq, dIStr, dIEnum, dIZip, dIRng1, dIRng2, dSl, dPart, dNoPart, dRaise, dDisp1, dNewD, dRevL, dRevT, dSortSet, dSortSetL, dIRng3, dGet2, dIKeys, dNewT, dSetT, dLstRg, dPar3, gdName, gdTup, gdCons, gdNil, dstart, dwipe, dAug, rdInt, rdSub, rdLt, rdLe, rdGt, rdGe, rdFdiv, rdMod, rdPow, at0, at1, at2, i30, i31, i32, set0, set1, set2, MO.lst.injEq, gup_same, gup_gup, ad_ii, ad_ss, ad_tt, ad_ll, mu_ii, mu_li, mu_ti, ix_t, ix_l, ix_s, ix_r, ix_w, ln_t, ln_l, ln_s, ln_w, ln_r, sr_t, sr_l, sr_s, sr_r, sl_t, sl_l, sl_s, sl_r, sl_w, tu_t, tu_l, tu_r, li_t, li_l, li_r, lm_t, lm_l, mx2, mn2, ab1, in1, is2, rdIsB, rdNotB, rdIsN, rdNotN, TD.isNon, List.map_cons, List.map_nil, List.length_cons, List.length_nil, List.replicate_succ, List.replicate_zero, List.cons_append, List.nil_append, List.append_nil, Nat.zero_add, Nat.reduceAdd, Nat.reduceSub, Nat.sub_self, Nat.add_sub_cancel, List.getElem?_cons_zero, List.getElem?_cons_succ, List.getElem?_nil, List.set_cons_zero, List.set_cons_succ, List.set_nil, Option.some.injEq, D.int.injEq, D.bl.injEq, D.str.injEq, D.ref.injEq, D.ty.injEq, D.tup.injEq, D.lst.injEq, List.cons.injEq, and_true, true_and, ex_two, ex_two', exists_eq_left', exists_eq_left, exists_and_left, exists_and_right, exists_const, exists_eq_right, exists_eq_right', Bool.not_true, Bool.not_false, if_true, if_false, Bool.false_eq_true, reduceCtorEq, false_and, and_false, decide_true, decide_false]
    repeat refine and_sz (by omega) ?_
    refine eq_pur (by decide +kernel) (by decide +kernel) ?_
    have ee : deq (.lst [.str "trucks", .str "gap", .str "span", .str "trucks", .str "trucks", .str "span", .str "fronts", .str "span", .str "limit"]) (.lst [.str "trucks", .str "gap", .str "span", .str "trucks", .str "trucks", .str "span", .str "fronts", .str "span", .str "limit"]) = true := by decide +kernel
    rw [ee]
    exact q G3 (u4.mono (by omega))
  · exact h.elim
end K06
/-! ### how heavy a convoy can be; when it is told -/
namespace K06
open PySem L2 TD
/-- the places of the road from f on that are on the bridge -/
def room (span f : Int) : Int := max (span + 1 - max f 0) 0
theorem onW_room {t : Truck} (w : WTr t) (span g : Int) : onW t span g ≤ 50 * (room span g - room span (g + t.len + 1)) := by
  have h := sum_le (m := 50) (l := (t.ax.filter (isOn span g)).map (·.2)) fun x hx => by
    obtain ⟨a, ha, rfl⟩ := List.mem_map.mp hx
    have := w.pl a (List.mem_filter.mp ha).1
    omega
  rw [List.length_map] at h
  have l1 := w.l1
  have hn : (((t.ax.filter (isOn span g)).map (·.1)).map fun p => p - max 0 (-g)).Nodup := by
    have h1 : (t.ax.map (·.1)).Pairwise (· < ·) := asc_pw w.up
    have h2 : ((t.ax.filter (isOn span g)).map (·.1)).Pairwise (· < ·) := h1.sublist (List.Sublist.map _ List.filter_sublist)
    refine List.pairwise_map.mpr (h2.imp fun {a b} hab z => ?_)
    omega
  have hb := nodup_bound hn (room span g - room span (g + t.len + 1)).toNat fun x hx => by
    obtain ⟨y, hy, rfl⟩ := List.mem_map.mp hx
    obtain ⟨a, ha, rfl⟩ := List.mem_map.mp hy
    obtain ⟨ha1, ha2⟩ := List.mem_filter.mp ha
    have := w.pl a ha1
    unfold isOn at ha2
    simp only [Bool.and_eq_true, decide_eq_true_eq] at ha2
    unfold room
    omega
  rw [List.length_map, List.length_map] at hb
  have h0 : 0 ≤ room span g - room span (g + t.len + 1) := by unfold room; omega
  unfold onW
  omega
theorem load_room {ts : Trucks} (w : WTs ts) {gap span f : Int} {c : Convoy} (hg : 1 ≤ gap) (h : Cv ts gap f c) : loadW ts span c ≤ 50 * room span f := by
  induction h with
  | nil => rw [loadW_nil]; unfold room; omega
  | @cons f g i r a b q ih =>
    rw [loadW_cons]
    have h1 := onW_room (w.tr b) span g
    have h2 : room span (g + (tOf ts i).len + gap) ≤ room span (g + (tOf ts i).len + 1) := by unfold room; omega
    have h3 : room span g ≤ room span f := by unfold room; omega
    show onW (tOf ts i) span g + loadW ts span r ≤ _
    omega
theorem best_room {ts : Trucks} (w : WTs ts) {gap span f : Int} {q : Int × Convoy} (hg : 1 ≤ gap) (s1 : 0 ≤ span) (h : Best ts gap span f q) : q.1 ≤ 50 * (span + 1) := by
  have := load_room (span := span) w hg h.cv
  rw [h.ld] at this
  have h2 : room span f ≤ span + 1 := by unfold room; omega
  omega
/-- a convoy keeps its gaps -/
theorem okGaps_cv {ts : Trucks} {gap f : Int} {c : Convoy} (h : Cv ts gap f c) : okGaps ts gap c = true := by
  induction h with
  | nil => rfl
  | @cons f g i r a b q ih =>
    cases q with
    | nil => rfl
    | @cons _ g2 i2 r2 a2 b2 q2 =>
      unfold okGaps at ih ⊢
      rw [List.drop_one, List.tail_cons, List.zip_cons_cons, List.all_cons]
      rw [List.drop_one, List.tail_cons] at ih
      rw [ih, Bool.and_true]
      unfold gapOk
      exact decide_eq_true a2
theorem cvB_best {ts : Trucks} (w : WTs ts) {gap span : Int} {q : Int × Convoy} (hg : 1 ≤ gap) (s2 : span ≤ 100) (h : Best ts gap span (-30) q) : cvB ts gap (frsD q.2) = true := by
  have hl := cv_len w hg h.cv fun p hp => (h.fr p hp).2
  have hi := h.cv.idx
  unfold cvB
  rw [decs_frs, okGaps_cv h.cv, Bool.and_true]
  refine frB_frs (by omega) fun p hp => ?_
  have h1 := hi p hp
  have h2 := h.fr p hp
  exact ⟨by omega, by omega, by omega⟩
/-- the law's last example -/
def exT : Trucks := [⟨4, [(0, 3), (4, 5)]⟩]
def exP (f : Int) : Int := if f ≤ 0 then 16 else if f ≤ 4 then 11 else if f ≤ 6 then 8 else if f ≤ 10 then 3 else 0
theorem exW : WTs exT := ⟨by decide, by decide, fun t ht => by
  rw [List.mem_singleton.mp ht]
  refine ⟨by decide, by decide, by decide, by decide, fun a ha => ?_, by decide⟩
  rcases List.mem_cons.mp ha with rfl | ha
  · exact ⟨by decide, by decide, by decide, by decide⟩
  · rw [List.mem_singleton.mp ha]
    exact ⟨by decide, by decide, by decide, by decide⟩⟩
theorem two_sum (p : Int × Int → Bool) (a b : Int × Int) : (([a, b].filter p).map (·.2)).sum = (if p a = true then a.2 else 0) + (if p b = true then b.2 else 0) := by
  cases ha : p a <;> cases hb : p b <;> simp [ha, hb]
theorem exOn (g : Int) : onW ⟨4, [(0, 3), (4, 5)]⟩ 10 g = (if 0 ≤ g ∧ g ≤ 10 then 3 else 0) + (if -4 ≤ g ∧ g ≤ 6 then 5 else 0) := by
  unfold onW
  rw [two_sum]
  unfold isOn
  simp only [Bool.and_eq_true, decide_eq_true_eq]
  congr 1
  · by_cases a : 0 ≤ g ∧ g ≤ 10
    · rw [if_pos a, if_pos (by omega)]
    · rw [if_neg a, if_neg (by omega)]
  · by_cases a : -4 ≤ g ∧ g ≤ 6
    · rw [if_pos a, if_pos (by omega)]
    · rw [if_neg a, if_neg (by omega)]
theorem exLe {f : Int} {c : Convoy} (h : Cv exT 2 f c) : loadW exT 10 c ≤ exP f := by
  induction h with
  | nil => rw [loadW_nil]; unfold exP; split <;> (try split) <;> (try split) <;> (try split) <;> omega
  | @cons f g i r a b q ih =>
    have e : i = 0 := by
      have : exT.length = 1 := rfl
      omega
    subst e
    have et : tOf exT 0 = ⟨4, [(0, 3), (4, 5)]⟩ := rfl
    rw [loadW_cons]
    show onW (tOf exT 0) 10 g + loadW exT 10 r ≤ exP f
    have el : (tOf exT 0).len = 4 := rfl
    rw [el] at ih
    rw [et, exOn]
    unfold exP at ih ⊢
    split <;> split <;> (split at ih <;> (try split at ih) <;> (try split at ih) <;> (try split at ih)) <;> (split <;> (try split) <;> (try split) <;> (try split)) <;> omega
theorem exBest {q : Int × Convoy} (h : Best exT 2 10 (-30) q) : q.1 = 16 := by
  have h1 := exLe h.cv
  rw [h.ld] at h1
  have h2 := h.mx [(0, 0), (0, 6)] (.cons (by decide) (by decide) (.cons (by decide) (by decide) .nil))
  have h3 : loadW exT 10 [(0, 0), (0, 6)] = 16 := by
    rw [loadW_cons, loadW_cons, loadW_nil]
    show onW ⟨4, [(0, 3), (4, 5)]⟩ 10 0 + (onW ⟨4, [(0, 3), (4, 5)]⟩ 10 6 + 0) = 16
    rw [exOn, exOn]
    decide
  have h4 : exP (-30) = 16 := by decide
  omega
end K06
namespace K06
open PySem L2 TD
def ds__law_right (A : Ad) : DS := dSeq (dAsg (dCall (sp__law_pick A) (dCons (dVar 0) (dCons (dLst (dCons (dC (.int 3)) (dCons (dC (.int 8)) (dCons (dC (.int 30)) dNil)))) dNil))) (gdName 1)) (dSeq (dAsg (dTup (dCons (dCB rdTuple (dCons (dLc (dIRng1 (dCons (dOp rdAdd (dC (.int 1)) (dCall (sp__law_roll A) (dCons (dVar 0) (dCons (dC (.int 4)) dNil)))) dNil)) (gdName 2) dYes (dCall (sp__law_truck A) (dCons (dVar 0) (dCons (dVar 1) dNil))) [2]) dNil)) (dCons (dOp rdAdd (dC (.int 1)) (dCall (sp__law_roll A) (dCons (dVar 0) (dCons (dCall (sp__law_pick A) (dCons (dVar 0) (dCons (dLst (dCons (dC (.int 2)) (dCons (dC (.int 20)) dNil))) dNil))) dNil)))) (dCons (dCall (sp__law_pick A) (dCons (dVar 0) (dCons (dLst (dCons (dC (.int 0)) (dCons (dC (.int 3)) (dCons (dC (.int 8)) (dCons (dCall (sp__law_roll A) (dCons (dVar 0) (dCons (dC (.int 101)) dNil))) dNil))))) dNil))) dNil)))) (gdTup (gdCons (gdName 3) (gdCons (gdName 4) (gdCons (gdName 5) gdNil))) 3)) (dSeq (dPar3 6 7 8 (dCall (sp__law_most A) (dCons (dVar 3) (dCons (dVar 4) (dCons (dVar 5) dNil)))) (dCall (sp_convoy A) (dCons (dVar 3) (dCons (dVar 4) (dCons (dVar 5) dNil)))) (dCall (sp__law_drawn A) (dCons (dVar 0) (dCons (dVar 3) (dCons (dVar 4) dNil))))) (dSeq (dIfS (dOr (dTest (dOp rdNe (dCall (sp_heaviest A) (dCons (dVar 3) (dCons (dVar 4) (dCons (dVar 5) dNil)))) (dVar 6))) (dOr (dTest (dOp rdNe (dCallK (sp_heaviest A) 0 3 [2, 1, 0] dNil (dCons (dVar 5) (dCons (dVar 4) (dCons (dVar 3) dNil)))) (dVar 6))) (dNot (dTest (dCall (sp__law_is_due A) (dCons (dVar 3) (dCons (dVar 4) (dCons (dVar 5) (dCons (dVar 7) (dCons (dVar 6) dNil)))))))))) (dRet (dC (.bl false))) dNext) (dSeq (dIfS (dAnd (dTest (dOp rdEq (dVar 1) (dC (.int 3)))) (dAnd (dTest (dOp rdLt (dVar 5) (dC (.int 9)))) (dTest (dOp rdNe (dCall (sp__law_by_search A) (dCons (dVar 3) (dCons (dVar 4) (dCons (dVar 5) dNil)))) (dVar 6))))) (dRet (dC (.bl false))) dNext) (dSeq (dAsg (dCB rdSum (dCons (dLc (dISeq (dVar 8)) (gdTup (gdCons (gdName 9) (gdCons (gdName 10) gdNil)) 2) dYes (dCall (sp__law_on A) (dCons (dOp rdIx (dVar 3) (dVar 9)) (dCons (dVar 5) (dCons (dVar 10) dNil)))) [9, 10]) dNil)) (gdName 11)) (dSeq (dIfS (dOr (dTest (dOp rdNe (dCall (sp_load A) (dCons (dVar 3) (dCons (dVar 5) (dCons (dVar 8) dNil)))) (dVar 11))) (dOr (dTest (dOp rdNe (dCallK (sp_load A) 0 3 [2, 1, 0] dNil (dCons (dVar 8) (dCons (dVar 5) (dCons (dVar 3) dNil)))) (dVar 11))) (dOr (dTest (dOp rdGt (dVar 11) (dVar 6))) (dTest (dOp rdNotB (dCall (sp_is_convoy A) (dCons (dVar 3) (dCons (dVar 4) (dCons (dVar 5) (dCons (dVar 7) dNil))))) (dC (.bl true))))))) (dRet (dC (.bl false))) dNext) (dSeq (dFor (dIRng1 (dCons (dC (.int 5)) dNil)) (gdName 2) (dSeq (dAsg (dCall (sp__law_near A) (dCons (dVar 0) (dCons (dCall (sp__law_pick A) (dCons (dVar 0) (dCons (dLst (dCons (dVar 7) (dCons (dVar 8) dNil))) dNil))) dNil))) (gdName 12)) (dIfS (dTest (dOp rdNe (dCallK (sp_is_convoy A) 3 1 [0] (dCons (dVar 3) (dCons (dVar 4) (dCons (dVar 5) dNil))) (dCons (dVar 12) dNil)) (dCall (sp__law_is_due A) (dCons (dVar 3) (dCons (dVar 4) (dCons (dVar 5) (dCons (dVar 12) (dCons (dVar 6) dNil)))))))) (dRet (dC (.bl false))) dNext))) (dSeq (dAsg (dCB rdMax2 (dCons (dC (.int 1)) (dCons (dOp rdAdd (dVar 6) (dCall (sp__law_pick A) (dCons (dVar 0) (dCons (dLst (dCons (dC (.int 0)) (dCons (dNeg (dC (.int 1))) (dCons (dC (.int 5)) (dCons (dNeg (dC (.int 20))) dNil))))) dNil)))) dNil))) (gdName 13)) (dSeq (dAsg (dLc (dIRng2 (dCons (dC (.int 1)) (dCons (dC (.int 21)) dNil))) (gdName 14) (dTest (dOp rdLe (dCall (sp__law_most A) (dCons (dVar 3) (dCons (dVar 14) (dCons (dVar 5) dNil)))) (dVar 13))) (dVar 14) [14]) (gdName 15)) (dSeq (dIfS (dOr (dTest (dOp rdNe (dCall (sp_least_gap A) (dCons (dVar 3) (dCons (dVar 5) (dCons (dVar 13) dNil)))) (dIf (dTest (dOp rdNe (dVar 15) (dLst dNil))) (dOp rdIx (dVar 15) (dC (.int 0))) (dC .non)))) (dTest (dOp rdNe (dVar 15) (dLstRg (dOp rdSub (dC (.int 21)) (dCB rdLen (dCons (dVar 15) dNil))) (dC (.int 21)))))) (dRet (dC (.bl false))) dNext) (dRet (dAndV (dOrV (dOp rdEq (dVar 5) (dC (.int 100))) (dOp rdGe (dCall (sp_heaviest A) (dCons (dVar 3) (dCons (dVar 4) (dCons (dOp rdAdd (dVar 5) (dC (.int 1))) dNil)))) (dVar 6))) (dCall (sp__law_refuses A) (dCons (dVar 0) (dCons (dVar 3) (dCons (dVar 4) (dCons (dVar 5) dNil)))))))))))))))))
def N__law_right : List PySem.Str := ["dice", "far", "turn", "trucks", "gap", "span", "most", "found", "some", "truck", "front", "weight", "near", "limit", "one", "good"]
def tl__law_right_8 (A : Ad) : DS := dSeq (dAsg (dCB rdMax2 (dCons (dC (.int 1)) (dCons (dOp rdAdd (dVar 6) (dCall (sp__law_pick A) (dCons (dVar 0) (dCons (dLst (dCons (dC (.int 0)) (dCons (dNeg (dC (.int 1))) (dCons (dC (.int 5)) (dCons (dNeg (dC (.int 20))) dNil))))) dNil)))) dNil))) (gdName 13)) (dSeq (dAsg (dLc (dIRng2 (dCons (dC (.int 1)) (dCons (dC (.int 21)) dNil))) (gdName 14) (dTest (dOp rdLe (dCall (sp__law_most A) (dCons (dVar 3) (dCons (dVar 14) (dCons (dVar 5) dNil)))) (dVar 13))) (dVar 14) [14]) (gdName 15)) (dSeq (dIfS (dOr (dTest (dOp rdNe (dCall (sp_least_gap A) (dCons (dVar 3) (dCons (dVar 5) (dCons (dVar 13) dNil)))) (dIf (dTest (dOp rdNe (dVar 15) (dLst dNil))) (dOp rdIx (dVar 15) (dC (.int 0))) (dC .non)))) (dTest (dOp rdNe (dVar 15) (dLstRg (dOp rdSub (dC (.int 21)) (dCB rdLen (dCons (dVar 15) dNil))) (dC (.int 21)))))) (dRet (dC (.bl false))) dNext) (dRet (dAndV (dOrV (dOp rdEq (dVar 5) (dC (.int 100))) (dOp rdGe (dCall (sp_heaviest A) (dCons (dVar 3) (dCons (dVar 4) (dCons (dOp rdAdd (dVar 5) (dC (.int 1))) dNil)))) (dVar 6))) (dCall (sp__law_refuses A) (dCons (dVar 0) (dCons (dVar 3) (dCons (dVar 4) (dCons (dVar 5) dNil)))))))))
def tl__law_right_7 (A : Ad) : DS := dSeq (dFor (dIRng1 (dCons (dC (.int 5)) dNil)) (gdName 2) (dSeq (dAsg (dCall (sp__law_near A) (dCons (dVar 0) (dCons (dCall (sp__law_pick A) (dCons (dVar 0) (dCons (dLst (dCons (dVar 7) (dCons (dVar 8) dNil))) dNil))) dNil))) (gdName 12)) (dIfS (dTest (dOp rdNe (dCallK (sp_is_convoy A) 3 1 [0] (dCons (dVar 3) (dCons (dVar 4) (dCons (dVar 5) dNil))) (dCons (dVar 12) dNil)) (dCall (sp__law_is_due A) (dCons (dVar 3) (dCons (dVar 4) (dCons (dVar 5) (dCons (dVar 12) (dCons (dVar 6) dNil)))))))) (dRet (dC (.bl false))) dNext))) (tl__law_right_8 A)
def tl__law_right_5 (A : Ad) : DS := dSeq (dAsg (dCB rdSum (dCons (dLc (dISeq (dVar 8)) (gdTup (gdCons (gdName 9) (gdCons (gdName 10) gdNil)) 2) dYes (dCall (sp__law_on A) (dCons (dOp rdIx (dVar 3) (dVar 9)) (dCons (dVar 5) (dCons (dVar 10) dNil)))) [9, 10]) dNil)) (gdName 11)) (dSeq (dIfS (dOr (dTest (dOp rdNe (dCall (sp_load A) (dCons (dVar 3) (dCons (dVar 5) (dCons (dVar 8) dNil)))) (dVar 11))) (dOr (dTest (dOp rdNe (dCallK (sp_load A) 0 3 [2, 1, 0] dNil (dCons (dVar 8) (dCons (dVar 5) (dCons (dVar 3) dNil)))) (dVar 11))) (dOr (dTest (dOp rdGt (dVar 11) (dVar 6))) (dTest (dOp rdNotB (dCall (sp_is_convoy A) (dCons (dVar 3) (dCons (dVar 4) (dCons (dVar 5) (dCons (dVar 7) dNil))))) (dC (.bl true))))))) (dRet (dC (.bl false))) dNext) (tl__law_right_7 A))
def tl__law_right_3 (A : Ad) : DS := dSeq (dIfS (dOr (dTest (dOp rdNe (dCall (sp_heaviest A) (dCons (dVar 3) (dCons (dVar 4) (dCons (dVar 5) dNil)))) (dVar 6))) (dOr (dTest (dOp rdNe (dCallK (sp_heaviest A) 0 3 [2, 1, 0] dNil (dCons (dVar 5) (dCons (dVar 4) (dCons (dVar 3) dNil)))) (dVar 6))) (dNot (dTest (dCall (sp__law_is_due A) (dCons (dVar 3) (dCons (dVar 4) (dCons (dVar 5) (dCons (dVar 7) (dCons (dVar 6) dNil)))))))))) (dRet (dC (.bl false))) dNext) (dSeq (dIfS (dAnd (dTest (dOp rdEq (dVar 1) (dC (.int 3)))) (dAnd (dTest (dOp rdLt (dVar 5) (dC (.int 9)))) (dTest (dOp rdNe (dCall (sp__law_by_search A) (dCons (dVar 3) (dCons (dVar 4) (dCons (dVar 5) dNil)))) (dVar 6))))) (dRet (dC (.bl false))) dNext) (tl__law_right_5 A))
def tl__law_right_2 (A : Ad) : DS := dSeq (dPar3 6 7 8 (dCall (sp__law_most A) (dCons (dVar 3) (dCons (dVar 4) (dCons (dVar 5) dNil)))) (dCall (sp_convoy A) (dCons (dVar 3) (dCons (dVar 4) (dCons (dVar 5) dNil)))) (dCall (sp__law_drawn A) (dCons (dVar 0) (dCons (dVar 3) (dCons (dVar 4) dNil))))) (tl__law_right_3 A)
theorem tl__law_right (A : Ad) : ds__law_right A = dSeq (dAsg (dCall (sp__law_pick A) (dCons (dVar 0) (dCons (dLst (dCons (dC (.int 3)) (dCons (dC (.int 8)) (dCons (dC (.int 30)) dNil)))) dNil))) (gdName 1)) (dSeq (dAsg (dTup (dCons (dCB rdTuple (dCons (dLc (dIRng1 (dCons (dOp rdAdd (dC (.int 1)) (dCall (sp__law_roll A) (dCons (dVar 0) (dCons (dC (.int 4)) dNil)))) dNil)) (gdName 2) dYes (dCall (sp__law_truck A) (dCons (dVar 0) (dCons (dVar 1) dNil))) [2]) dNil)) (dCons (dOp rdAdd (dC (.int 1)) (dCall (sp__law_roll A) (dCons (dVar 0) (dCons (dCall (sp__law_pick A) (dCons (dVar 0) (dCons (dLst (dCons (dC (.int 2)) (dCons (dC (.int 20)) dNil))) dNil))) dNil)))) (dCons (dCall (sp__law_pick A) (dCons (dVar 0) (dCons (dLst (dCons (dC (.int 0)) (dCons (dC (.int 3)) (dCons (dC (.int 8)) (dCons (dCall (sp__law_roll A) (dCons (dVar 0) (dCons (dC (.int 101)) dNil))) dNil))))) dNil))) dNil)))) (gdTup (gdCons (gdName 3) (gdCons (gdName 4) (gdCons (gdName 5) gdNil))) 3)) (tl__law_right_2 A)) := rfl
def sp__law_right (A : Ad) : SpD := fun zs G Q _ => match zs with
  | [.ref a] => ∃ m, Dc G a m ∧ m ≤ 100000 ∧ G A.t_law_refuses = some (.tab "_law_refuses.<locals>.<lambda>") ∧ ∀ G', Upd a (m + 1000) G G' → Q (.bl true) G'
  | _ => False
theorem len__law_right {A : Ad} {zs : List D} {G : GH} {Q : DK} {x : XD} (h : sp__law_right A zs G Q x) : zs.length = 1 := by
  unfold sp__law_right at h
  split at h <;> first | rfl | exact h.elim
/-- calls with what is right -/
theorem heavy_of {A : Ad} {ts : Trucks} {gap span : Int} {q : Int × Convoy} {G : GH} {Q : DK} {x : XD} (w : WTs ts) (g1 : 1 ≤ gap) (g2 : gap ≤ 20) (s1 : 0 ≤ span) (s2 : span ≤ 100) (B : Best ts gap span (-30) q) (k : ∀ G', Ext G G' → Q (.int q.1) G') : sp_heaviest A [trsD ts, .int gap, .int span] G Q x :=
  bridge_ok w g1 g2 s1 s2 fun q' G' B' e => by rw [B'.uniq B]; exact k G' e
theorem isconv_of {A : Ad} {ts : Trucks} {gap span : Int} {q : Int × Convoy} {u : D} {G : GH} {Q : DK} {x : XD} (w : WTs ts) (g1 : 1 ≤ gap) (g2 : gap ≤ 20) (s1 : 0 ≤ span) (s2 : span ≤ 100) (hu : Pur u) (B : Best ts gap span (-30) q) (k : ∀ G', Ext G G' → Q (.bl (cvB ts gap u && decide (loadW ts span (decs u) = q.1))) G') : sp_is_convoy A [trsD ts, .int gap, .int span, u] G Q x :=
  ⟨hu, bridge_ok w g1 g2 s1 s2 fun q' G' B' e => by rw [B'.uniq B]; exact k G' e⟩
theorem load_of {A : Ad} {ts : Trucks} {span : Int} {c : Convoy} {G : GH} {Q : DK} {x : XD} (w : WTs ts) (s1 : 0 ≤ span) (s2 : span ≤ 100) (hf : ∀ n : Int, (ts.length : Int) = n → frB n (frsD c) = true) (k : Q (.int (loadW ts span c)) G) : sp_load A [trsD ts, .int span, frsD c] G Q x :=
  ⟨pur_trs ts, rfl, pur_frs c, fun z => (no_trs z rfl w).elim, fun ts' e w' => by
    cases trsD_inj e
    refine ⟨fun z => (isIn_int s1 s2 z).elim, fun span' es _ _ => ?_⟩
    cases es
    refine ⟨fun z => ?_, fun fs ef _ _ => ?_⟩
    · rw [hf _ rfl] at z
      cases z
    · cases frsD_inj ef
      exact k⟩
theorem ne_same_i {i : Int} {G : GH} {Q : DK} (q : Q (.bl false) G) : rdNe (.int i) (.int i) G Q := ne_pur rfl rfl (by rw [deq_ii]; simpa using q)
theorem ne_same_b {i : Bool} {G : GH} {Q : DK} (q : Q (.bl false) G) : rdNe (.bl i) (.bl i) G Q := ne_pur rfl rfl (by rw [deq_bb]; simpa using q)
theorem stA {A : Ad} {a : Addr} {m : Nat} {G : GH} {Q : DK} {x : XD} (hc : Dc G a m) (hm : m ≤ 200000)
    (rest : ∀ (far : Int) (ts : Trucks) (gap span : Int) G', WTs ts → (far = 3 → ∀ t ∈ ts, t.len ≤ 3) → 1 ≤ gap → gap ≤ 20 → 0 ≤ span → span ≤ 100 → Upd a (m + 200) G G' →
      tl__law_right_2 A (LE Q x) [some (.ref a), some (.int far), none, some (trsD ts), some (.int gap), some (.int span), none, none, none, none, none, none, none, none, none, none] G') :
    ds__law_right A (LE Q x) (dstart N__law_right [.ref a]) G := by
  rw [tl__law_right]
  unfold N__law_right
  simp only [dRet, dRetN, dSeq, dAsg, dDrop, dIfS, dNext, dBreak, dCont, dPar, dSetL, dSetD, dFor, dVar, dC, dOp, dAndV, dOrV, dNotV, dAnd, dOr, dNot, dIf, dTest, dChain, dNil, dCons, dTup, dLst, dLstM, dStar, dNeg, dCB, dCall, dCallK, dMthT, dMth0, dLc, dYes, dISeq, dIStr, dIEnum, dIZip, dIRng1, dIRng2, dSl, dPart, dNoPart, dRaise, dDisp1, dNewD, dRevL, dRevT, dSortSet, dSortSetL, dIRng3, dGet2, dIKeys, dNewT, dSetT, dLstRg, dPar3, dLamA, dLamB, gdName, gdTup, gdCons, gdNil, dstart, dwipe, dAug, rdInt, rdSub, rdLt, rdLe, rdGt, rdGe, rdFdiv, rdMod, rdPow, at0, at1, at2, i30, i31, i32, set0, set1, set2, MO.lst.injEq, gup_same, gup_gup, ad_ii, ad_ss, ad_tt, ad_ll, mu_ii, mu_li, mu_ti, ix_t, ix_l, ix_s, ix_r, ix_w, ln_t, ln_l, ln_s, ln_w, ln_r, sr_t, sr_l, sr_s, sr_r, sl_t, sl_l, sl_s, sl_r, sl_w, tu_t, tu_l, tu_r, li_t, li_l, li_r, lm_t, lm_l, mx2, mn2, ab1, in1, is2, rdIsB, rdNotB, rdIsN, rdNotN, TD.isNon, List.map_cons, List.map_nil, List.length_cons, List.length_nil, List.replicate_succ, List.replicate_zero, List.cons_append, List.nil_append, List.append_nil, Nat.zero_add, Nat.reduceAdd, Nat.reduceSub, Nat.sub_self, Nat.add_sub_cancel, List.getElem?_cons_zero, List.getElem?_cons_succ, List.getElem?_nil, List.set_cons_zero, List.set_cons_succ, List.set_nil, Option.some.injEq, D.int.injEq, D.bl.injEq, D.str.injEq, D.ref.injEq, D.ty.injEq, D.tup.injEq, D.lst.injEq, List.cons.injEq, and_true, true_and, ex_two, ex_two', exists_eq_left', exists_eq_left, exists_and_left, exists_and_right, exists_const, exists_eq_right, exists_eq_right', Bool.not_true, Bool.not_false, if_true, if_false, Bool.false_eq_true, reduceCtorEq, false_and, and_false, decide_true, decide_false]
  repeat refine and_sz (by omega) ?_
  refine pick_of hc (by omega) (by show 0 < 3; decide) (by show 3 < 1000000; decide) fun z hz G1 u1 => ?_
  obtain ⟨far, rfl, f1, f2⟩ : ∃ far : Int, z = .int far ∧ 1 ≤ far ∧ far ≤ 30 := by
    simp only [List.mem_cons, List.not_mem_nil, or_false] at hz
    rcases hz with rfl | rfl | rfl <;> exact ⟨_, rfl, by omega, by omega⟩
  try simp only [dRet, dRetN, dSeq, dAsg, dDrop, dIfS, dNext, dBreak, dCont, dPar, dSetL, dSetD, dFor, dVar, dC, dOp, dAndV, dOrV, dNotV, dAnd, dOr, dNot, dIf, dTest, dChain, dNil, dCons, dTup, dLst, dLstM, dStar, dNeg, dCB, dCall, dCallK, dMthT, dMth0, dLc, dYes, dISeq, dIStr, dIEnum, dIZip, dIRng1, dIRng2, dSl, dPart, dNoPart, dRaise, dDisp1, dNewD, dRevL, dRevT, dSortSet, dSortSetL, dIRng3, dGet2, dIKeys, dNewT, dSetT, dLstRg, dPar3, dLamA, dLamB, gdName, gdTup, gdCons, gdNil, dstart, dwipe, dAug, rdInt, rdSub, rdLt, rdLe, rdGt, rdGe, rdFdiv, rdMod, rdPow, at0, at1, at2, i30, i31, i32, set0, set1, set2, MO.lst.injEq, gup_same, gup_gup, ad_ii, ad_ss, ad_tt, ad_ll, mu_ii, mu_li, mu_ti, ix_t, ix_l, ix_s, ix_r, ix_w, ln_t, ln_l, ln_s, ln_w, ln_r, sr_t, sr_l, sr_s, sr_r, sl_t, sl_l, sl_s, sl_r, sl_w, tu_t, tu_l, tu_r, li_t, li_l, li_r, lm_t, lm_l, mx2, mn2, ab1, in1, is2, rdIsB, rdNotB, rdIsN, rdNotN, TD.isNon, List.map_cons, List.map_nil, List.length_cons, List.length_nil, List.replicate_succ, List.replicate_zero, List.cons_append, List.nil_append, List.append_nil, Nat.zero_add, Nat.reduceAdd, Nat.reduceSub, Nat.sub_self, Nat.add_sub_cancel, List.getElem?_cons_zero, List.getElem?_cons_succ, List.getElem?_nil, List.set_cons_zero, List.set_cons_succ, List.set_nil, Option.some.injEq, D.int.injEq, D.bl.injEq, D.str.injEq, D.ref.injEq, D.ty.injEq, D.tup.injEq, D.lst.injEq, List.cons.injEq, and_true, true_and, ex_two, ex_two', exists_eq_left', exists_eq_left, exists_and_left, exists_and_right, exists_const, exists_eq_right, exists_eq_right', Bool.not_true, Bool.not_false, if_true, if_false, Bool.false_eq_true, reduceCtorEq, false_and, and_false, decide_true, decide_false]
  refine roll_of u1.2 (by omega) (by omega) (by omega) fun r G2 hr u2 => ?_
  try simp only [dRet, dRetN, dSeq, dAsg, dDrop, dIfS, dNext, dBreak, dCont, dPar, dSetL, dSetD, dFor, dVar, dC, dOp, dAndV, dOrV, dNotV, dAnd, dOr, dNot, dIf, dTest, dChain, dNil, dCons, dTup, dLst, dLstM, dStar, dNeg, dCB, dCall, dCallK, dMthT, dMth0, dLc, dYes, dISeq, dIStr, dIEnum, dIZip, dIRng1, dIRng2, dSl, dPart, dNoPart, dRaise, dDisp1, dNewD, dRevL, dRevT, dSortSet, dSortSetL, dIRng3, dGet2, dIKeys, dNewT, dSetT, dLstRg, dPar3, dLamA, dLamB, gdName, gdTup, gdCons, gdNil, dstart, dwipe, dAug, rdInt, rdSub, rdLt, rdLe, rdGt, rdGe, rdFdiv, rdMod, rdPow, at0, at1, at2, i30, i31, i32, set0, set1, set2, MO.lst.injEq, gup_same, gup_gup, ad_ii, ad_ss, ad_tt, ad_ll, mu_ii, mu_li, mu_ti, ix_t, ix_l, ix_s, ix_r, ix_w, ln_t, ln_l, ln_s, ln_w, ln_r, sr_t, sr_l, sr_s, sr_r, sl_t, sl_l, sl_s, sl_r, sl_w, tu_t, tu_l, tu_r, li_t, li_l, li_r, lm_t, lm_l, mx2, mn2, ab1, in1, is2, rdIsB, rdNotB, rdIsN, rdNotN, TD.isNon, List.map_cons, List.map_nil, List.length_cons, List.length_nil, List.replicate_succ, List.replicate_zero, List.cons_append, List.nil_append, List.append_nil, Nat.zero_add, Nat.reduceAdd, Nat.reduceSub, Nat.sub_self, Nat.add_sub_cancel, List.getElem?_cons_zero, List.getElem?_cons_succ, List.getElem?_nil, List.set_cons_zero, List.set_cons_succ, List.set_nil, Option.some.injEq, D.int.injEq, D.bl.injEq, D.str.injEq, D.ref.injEq, D.ty.injEq, D.tup.injEq, D.lst.injEq, List.cons.injEq, and_true, true_and, ex_two, ex_two', exists_eq_left', exists_eq_left, exists_and_left, exists_and_right, exists_const, exists_eq_right, exists_eq_right', Bool.not_true, Bool.not_false, if_true, if_false, Bool.false_eq_true, reduceCtorEq, false_and, and_false, decide_true, decide_false]
  have en : (1 + (r : Int)).toNat = r + 1 := by omega
  refine ⟨by omega, sz _ (by omega), ?_⟩
  rw [en]
  refine dComp_inv (fun i acc G' => ∃ ts : Trucks, acc = ts.map trD ∧ ts.length = i ∧ (∀ t ∈ ts, WTr t ∧ t.len ≤ far) ∧ Upd a (m + 2 + 30 * i) G G') 0 ⟨[], rfl, rfl, fun x hx => (List.not_mem_nil hx).elim, u1.trans u2⟩ (fun _ _ _ _ _ _ => trivial) (fun i dd acc G3 hi hI K1 hK => ?_) (fun acc G3 hI => ?_)
  · obtain ⟨ts, rfl, hl, hw, u⟩ := hI
    obtain ⟨hi1, rfl⟩ := rngD_get hi
    rw [Nat.zero_add] at *
    simp only [dRet, dRetN, dSeq, dAsg, dDrop, dIfS, dNext, dBreak, dCont, dPar, dSetL, dSetD, dFor, dVar, dC, dOp, dAndV, dOrV, dNotV, dAnd, dOr, dNot, dIf, dTest, dChain, dNil, dCons, dTup, dLst, dLstM, dStar, dNeg, dCB, dCall, dCallK, dMthT, dMth0, dLc, dYes, dISeq, dIStr, dIEnum, dIZip, dIRng1, dIRng2, dSl, dPart, dNoPart, dRaise, dDisp1, dNewD, dRevL, dRevT, dSortSet, dSortSetL, dIRng3, dGet2, dIKeys, dNewT, dSetT, dLstRg, dPar3, dLamA, dLamB, gdName, gdTup, gdCons, gdNil, dstart, dwipe, dAug, rdInt, rdSub, rdLt, rdLe, rdGt, rdGe, rdFdiv, rdMod, rdPow, at0, at1, at2, i30, i31, i32, set0, set1, set2, MO.lst.injEq, gup_same, gup_gup, ad_ii, ad_ss, ad_tt, ad_ll, mu_ii, mu_li, mu_ti, ix_t, ix_l, ix_s, ix_r, ix_w, ln_t, ln_l, ln_s, ln_w, ln_r, sr_t, sr_l, sr_s, sr_r, sl_t, sl_l, sl_s, sl_r, sl_w, tu_t, tu_l, tu_r, li_t, li_l, li_r, lm_t, lm_l, mx2, mn2, ab1, in1, is2, rdIsB, rdNotB, rdIsN, rdNotN, TD.isNon, List.map_cons, List.map_nil, List.length_cons, List.length_nil, List.replicate_succ, List.replicate_zero, List.cons_append, List.nil_append, List.append_nil, Nat.zero_add, Nat.reduceAdd, Nat.reduceSub, Nat.sub_self, Nat.add_sub_cancel, List.getElem?_cons_zero, List.getElem?_cons_succ, List.getElem?_nil, List.set_cons_zero, List.set_cons_succ, List.set_nil, Option.some.injEq, D.int.injEq, D.bl.injEq, D.str.injEq, D.ref.injEq, D.ty.injEq, D.tup.injEq, D.lst.injEq, List.cons.injEq, and_true, true_and, ex_two, ex_two', exists_eq_left', exists_eq_left, exists_and_left, exists_and_right, exists_const, exists_eq_right, exists_eq_right', Bool.not_true, Bool.not_false, if_true, if_false, Bool.false_eq_true, reduceCtorEq, false_and, and_false, decide_true, decide_false]
    refine ⟨_, u.2, by omega, f1, f2, fun t G4 wt hlen u4 => hK _ _ ⟨ts ++ [t], by rw [List.map_append]; rfl, by rw [List.length_append, hl]; rfl, fun y hy => ?_, (u.trans u4).mono (by omega)⟩⟩
    rcases List.mem_append.mp hy with hy | hy
    · exact hw y hy
    · rw [List.mem_singleton.mp hy]; exact ⟨wt, hlen⟩
  · obtain ⟨ts, rfl, hl, hw, u⟩ := hI
    rw [rngD_len, Nat.zero_add] at hl u
    have w : WTs ts := ⟨by omega, by omega, fun t ht => (hw t ht).1⟩
    try simp only [dRet, dRetN, dSeq, dAsg, dDrop, dIfS, dNext, dBreak, dCont, dPar, dSetL, dSetD, dFor, dVar, dC, dOp, dAndV, dOrV, dNotV, dAnd, dOr, dNot, dIf, dTest, dChain, dNil, dCons, dTup, dLst, dLstM, dStar, dNeg, dCB, dCall, dCallK, dMthT, dMth0, dLc, dYes, dISeq, dIStr, dIEnum, dIZip, dIRng1, dIRng2, dSl, dPart, dNoPart, dRaise, dDisp1, dNewD, dRevL, dRevT, dSortSet, dSortSetL, dIRng3, dGet2, dIKeys, dNewT, dSetT, dLstRg, dPar3, dLamA, dLamB, gdName, gdTup, gdCons, gdNil, dstart, dwipe, dAug, rdInt, rdSub, rdLt, rdLe, rdGt, rdGe, rdFdiv, rdMod, rdPow, at0, at1, at2, i30, i31, i32, set0, set1, set2, MO.lst.injEq, gup_same, gup_gup, ad_ii, ad_ss, ad_tt, ad_ll, mu_ii, mu_li, mu_ti, ix_t, ix_l, ix_s, ix_r, ix_w, ln_t, ln_l, ln_s, ln_w, ln_r, sr_t, sr_l, sr_s, sr_r, sl_t, sl_l, sl_s, sl_r, sl_w, tu_t, tu_l, tu_r, li_t, li_l, li_r, lm_t, lm_l, mx2, mn2, ab1, in1, is2, rdIsB, rdNotB, rdIsN, rdNotN, TD.isNon, List.map_cons, List.map_nil, List.length_cons, List.length_nil, List.replicate_succ, List.replicate_zero, List.cons_append, List.nil_append, List.append_nil, Nat.zero_add, Nat.reduceAdd, Nat.reduceSub, Nat.sub_self, Nat.add_sub_cancel, List.getElem?_cons_zero, List.getElem?_cons_succ, List.getElem?_nil, List.set_cons_zero, List.set_cons_succ, List.set_nil, Option.some.injEq, D.int.injEq, D.bl.injEq, D.str.injEq, D.ref.injEq, D.ty.injEq, D.tup.injEq, D.lst.injEq, List.cons.injEq, and_true, true_and, ex_two, ex_two', exists_eq_left', exists_eq_left, exists_and_left, exists_and_right, exists_const, exists_eq_right, exists_eq_right', Bool.not_true, Bool.not_false, if_true, if_false, Bool.false_eq_true, reduceCtorEq, false_and, and_false, decide_true, decide_false]
    repeat refine and_sz (by omega) ?_
    refine pick_of u.2 (by omega) (by show 0 < 2; decide) (by show 2 < 1000000; decide) fun z hz G4 u4 => ?_
    obtain ⟨tg, rfl, t1, t2⟩ : ∃ tg : Int, z = .int tg ∧ 1 ≤ tg ∧ tg ≤ 20 := by
      simp only [List.mem_cons, List.not_mem_nil, or_false] at hz
      rcases hz with rfl | rfl <;> exact ⟨_, rfl, by omega, by omega⟩
    try simp only [dRet, dRetN, dSeq, dAsg, dDrop, dIfS, dNext, dBreak, dCont, dPar, dSetL, dSetD, dFor, dVar, dC, dOp, dAndV, dOrV, dNotV, dAnd, dOr, dNot, dIf, dTest, dChain, dNil, dCons, dTup, dLst, dLstM, dStar, dNeg, dCB, dCall, dCallK, dMthT, dMth0, dLc, dYes, dISeq, dIStr, dIEnum, dIZip, dIRng1, dIRng2, dSl, dPart, dNoPart, dRaise, dDisp1, dNewD, dRevL, dRevT, dSortSet, dSortSetL, dIRng3, dGet2, dIKeys, dNewT, dSetT, dLstRg, dPar3, dLamA, dLamB, gdName, gdTup, gdCons, gdNil, dstart, dwipe, dAug, rdInt, rdSub, rdLt, rdLe, rdGt, rdGe, rdFdiv, rdMod, rdPow, at0, at1, at2, i30, i31, i32, set0, set1, set2, MO.lst.injEq, gup_same, gup_gup, ad_ii, ad_ss, ad_tt, ad_ll, mu_ii, mu_li, mu_ti, ix_t, ix_l, ix_s, ix_r, ix_w, ln_t, ln_l, ln_s, ln_w, ln_r, sr_t, sr_l, sr_s, sr_r, sl_t, sl_l, sl_s, sl_r, sl_w, tu_t, tu_l, tu_r, li_t, li_l, li_r, lm_t, lm_l, mx2, mn2, ab1, in1, is2, rdIsB, rdNotB, rdIsN, rdNotN, TD.isNon, List.map_cons, List.map_nil, List.length_cons, List.length_nil, List.replicate_succ, List.replicate_zero, List.cons_append, List.nil_append, List.append_nil, Nat.zero_add, Nat.reduceAdd, Nat.reduceSub, Nat.sub_self, Nat.add_sub_cancel, List.getElem?_cons_zero, List.getElem?_cons_succ, List.getElem?_nil, List.set_cons_zero, List.set_cons_succ, List.set_nil, Option.some.injEq, D.int.injEq, D.bl.injEq, D.str.injEq, D.ref.injEq, D.ty.injEq, D.tup.injEq, D.lst.injEq, List.cons.injEq, and_true, true_and, ex_two, ex_two', exists_eq_left', exists_eq_left, exists_and_left, exists_and_right, exists_const, exists_eq_right, exists_eq_right', Bool.not_true, Bool.not_false, if_true, if_false, Bool.false_eq_true, reduceCtorEq, false_and, and_false, decide_true, decide_false]
    refine roll_of (u.trans u4).2 (by omega) (by omega) (by omega) fun r5 G5 hr5 u5 => ?_
    try simp only [dRet, dRetN, dSeq, dAsg, dDrop, dIfS, dNext, dBreak, dCont, dPar, dSetL, dSetD, dFor, dVar, dC, dOp, dAndV, dOrV, dNotV, dAnd, dOr, dNot, dIf, dTest, dChain, dNil, dCons, dTup, dLst, dLstM, dStar, dNeg, dCB, dCall, dCallK, dMthT, dMth0, dLc, dYes, dISeq, dIStr, dIEnum, dIZip, dIRng1, dIRng2, dSl, dPart, dNoPart, dRaise, dDisp1, dNewD, dRevL, dRevT, dSortSet, dSortSetL, dIRng3, dGet2, dIKeys, dNewT, dSetT, dLstRg, dPar3, dLamA, dLamB, gdName, gdTup, gdCons, gdNil, dstart, dwipe, dAug, rdInt, rdSub, rdLt, rdLe, rdGt, rdGe, rdFdiv, rdMod, rdPow, at0, at1, at2, i30, i31, i32, set0, set1, set2, MO.lst.injEq, gup_same, gup_gup, ad_ii, ad_ss, ad_tt, ad_ll, mu_ii, mu_li, mu_ti, ix_t, ix_l, ix_s, ix_r, ix_w, ln_t, ln_l, ln_s, ln_w, ln_r, sr_t, sr_l, sr_s, sr_r, sl_t, sl_l, sl_s, sl_r, sl_w, tu_t, tu_l, tu_r, li_t, li_l, li_r, lm_t, lm_l, mx2, mn2, ab1, in1, is2, rdIsB, rdNotB, rdIsN, rdNotN, TD.isNon, List.map_cons, List.map_nil, List.length_cons, List.length_nil, List.replicate_succ, List.replicate_zero, List.cons_append, List.nil_append, List.append_nil, Nat.zero_add, Nat.reduceAdd, Nat.reduceSub, Nat.sub_self, Nat.add_sub_cancel, List.getElem?_cons_zero, List.getElem?_cons_succ, List.getElem?_nil, List.set_cons_zero, List.set_cons_succ, List.set_nil, Option.some.injEq, D.int.injEq, D.bl.injEq, D.str.injEq, D.ref.injEq, D.ty.injEq, D.tup.injEq, D.lst.injEq, List.cons.injEq, and_true, true_and, ex_two, ex_two', exists_eq_left', exists_eq_left, exists_and_left, exists_and_right, exists_const, exists_eq_right, exists_eq_right', Bool.not_true, Bool.not_false, if_true, if_false, Bool.false_eq_true, reduceCtorEq, false_and, and_false, decide_true, decide_false]
    refine roll_of u5.2 (by omega) (by omega) (by omega) fun r6 G6 hr6 u6 => ?_
    try simp only [dRet, dRetN, dSeq, dAsg, dDrop, dIfS, dNext, dBreak, dCont, dPar, dSetL, dSetD, dFor, dVar, dC, dOp, dAndV, dOrV, dNotV, dAnd, dOr, dNot, dIf, dTest, dChain, dNil, dCons, dTup, dLst, dLstM, dStar, dNeg, dCB, dCall, dCallK, dMthT, dMth0, dLc, dYes, dISeq, dIStr, dIEnum, dIZip, dIRng1, dIRng2, dSl, dPart, dNoPart, dRaise, dDisp1, dNewD, dRevL, dRevT, dSortSet, dSortSetL, dIRng3, dGet2, dIKeys, dNewT, dSetT, dLstRg, dPar3, dLamA, dLamB, gdName, gdTup, gdCons, gdNil, dstart, dwipe, dAug, rdInt, rdSub, rdLt, rdLe, rdGt, rdGe, rdFdiv, rdMod, rdPow, at0, at1, at2, i30, i31, i32, set0, set1, set2, MO.lst.injEq, gup_same, gup_gup, ad_ii, ad_ss, ad_tt, ad_ll, mu_ii, mu_li, mu_ti, ix_t, ix_l, ix_s, ix_r, ix_w, ln_t, ln_l, ln_s, ln_w, ln_r, sr_t, sr_l, sr_s, sr_r, sl_t, sl_l, sl_s, sl_r, sl_w, tu_t, tu_l, tu_r, li_t, li_l, li_r, lm_t, lm_l, mx2, mn2, ab1, in1, is2, rdIsB, rdNotB, rdIsN, rdNotN, TD.isNon, List.map_cons, List.map_nil, List.length_cons, List.length_nil, List.replicate_succ, List.replicate_zero, List.cons_append, List.nil_append, List.append_nil, Nat.zero_add, Nat.reduceAdd, Nat.reduceSub, Nat.sub_self, Nat.add_sub_cancel, List.getElem?_cons_zero, List.getElem?_cons_succ, List.getElem?_nil, List.set_cons_zero, List.set_cons_succ, List.set_nil, Option.some.injEq, D.int.injEq, D.bl.injEq, D.str.injEq, D.ref.injEq, D.ty.injEq, D.tup.injEq, D.lst.injEq, List.cons.injEq, and_true, true_and, ex_two, ex_two', exists_eq_left', exists_eq_left, exists_and_left, exists_and_right, exists_const, exists_eq_right, exists_eq_right', Bool.not_true, Bool.not_false, if_true, if_false, Bool.false_eq_true, reduceCtorEq, false_and, and_false, decide_true, decide_false]
    repeat refine and_sz (by omega) ?_
    refine pick_of u6.2 (by omega) (by show 0 < 4; decide) (by show 4 < 1000000; decide) fun z hz G7 u7 => ?_
    obtain ⟨span, rfl, s1, s2⟩ : ∃ span : Int, z = .int span ∧ 0 ≤ span ∧ span ≤ 100 := by
      simp only [List.mem_cons, List.not_mem_nil, or_false] at hz
      rcases hz with rfl | rfl | rfl | rfl <;> exact ⟨_, rfl, by omega, by omega⟩
    try simp only [dRet, dRetN, dSeq, dAsg, dDrop, dIfS, dNext, dBreak, dCont, dPar, dSetL, dSetD, dFor, dVar, dC, dOp, dAndV, dOrV, dNotV, dAnd, dOr, dNot, dIf, dTest, dChain, dNil, dCons, dTup, dLst, dLstM, dStar, dNeg, dCB, dCall, dCallK, dMthT, dMth0, dLc, dYes, dISeq, dIStr, dIEnum, dIZip, dIRng1, dIRng2, dSl, dPart, dNoPart, dRaise, dDisp1, dNewD, dRevL, dRevT, dSortSet, dSortSetL, dIRng3, dGet2, dIKeys, dNewT, dSetT, dLstRg, dPar3, dLamA, dLamB, gdName, gdTup, gdCons, gdNil, dstart, dwipe, dAug, rdInt, rdSub, rdLt, rdLe, rdGt, rdGe, rdFdiv, rdMod, rdPow, at0, at1, at2, i30, i31, i32, set0, set1, set2, MO.lst.injEq, gup_same, gup_gup, ad_ii, ad_ss, ad_tt, ad_ll, mu_ii, mu_li, mu_ti, ix_t, ix_l, ix_s, ix_r, ix_w, ln_t, ln_l, ln_s, ln_w, ln_r, sr_t, sr_l, sr_s, sr_r, sl_t, sl_l, sl_s, sl_r, sl_w, tu_t, tu_l, tu_r, li_t, li_l, li_r, lm_t, lm_l, mx2, mn2, ab1, in1, is2, rdIsB, rdNotB, rdIsN, rdNotN, TD.isNon, List.map_cons, List.map_nil, List.length_cons, List.length_nil, List.replicate_succ, List.replicate_zero, List.cons_append, List.nil_append, List.append_nil, Nat.zero_add, Nat.reduceAdd, Nat.reduceSub, Nat.sub_self, Nat.add_sub_cancel, List.getElem?_cons_zero, List.getElem?_cons_succ, List.getElem?_nil, List.set_cons_zero, List.set_cons_succ, List.set_nil, Option.some.injEq, D.int.injEq, D.bl.injEq, D.str.injEq, D.ref.injEq, D.ty.injEq, D.tup.injEq, D.lst.injEq, List.cons.injEq, and_true, true_and, ex_two, ex_two', exists_eq_left', exists_eq_left, exists_and_left, exists_and_right, exists_const, exists_eq_right, exists_eq_right', Bool.not_true, Bool.not_false, if_true, if_false, Bool.false_eq_true, reduceCtorEq, false_and, and_false, decide_true, decide_false]
    repeat refine and_sz (by omega) ?_
    exact rest far ts (1 + r5) span G7 w (fun e t ht => by have := (hw t ht).2; omega) (by omega) (by omega) s1 s2 ((((u.trans u4).trans u5).trans u6).trans u7 |>.mono (by omega))
theorem stB {A : Ad} {a : Addr} {m : Nat} {G : GH} {Q : DK} {x : XD} {far gap span : Int} {ts : Trucks} (hc : Dc G a m) (hm : m ≤ 200000) (w : WTs ts) (g1 : 1 ≤ gap) (g2 : gap ≤ 20) (s1 : 0 ≤ span) (s2 : span ≤ 100)
    (rest : ∀ (q : Int × Convoy) (c : Convoy) G', Best ts gap span (-30) q → Cv ts gap (-30) c → c.length ≤ 12 → (∀ p ∈ c, p.1 < ts.length ∧ -30 ≤ p.2 ∧ p.2 ≤ 200) → Upd a (m + 50) G G' →
      tl__law_right_3 A (LE Q x) [some (.ref a), some (.int far), none, some (trsD ts), some (.int gap), some (.int span), some (.int q.1), some (frsD q.2), some (frsD c), none, none, none, none, none, none, none] G') :
    tl__law_right_2 A (LE Q x) [some (.ref a), some (.int far), none, some (trsD ts), some (.int gap), some (.int span), none, none, none, none, none, none, none, none, none, none] G := by
  unfold tl__law_right_2
  simp only [dRet, dRetN, dSeq, dAsg, dDrop, dIfS, dNext, dBreak, dCont, dPar, dSetL, dSetD, dFor, dVar, dC, dOp, dAndV, dOrV, dNotV, dAnd, dOr, dNot, dIf, dTest, dChain, dNil, dCons, dTup, dLst, dLstM, dStar, dNeg, dCB, dCall, dCallK, dMthT, dMth0, dLc, dYes, dISeq, dIStr, dIEnum, dIZip, dIRng1, dIRng2, dSl, dPart, dNoPart, dRaise, dDisp1, dNewD, dRevL, dRevT, dSortSet, dSortSetL, dIRng3, dGet2, dIKeys, dNewT, dSetT, dLstRg, dPar3, dLamA, dLamB, gdName, gdTup, gdCons, gdNil, dstart, dwipe, dAug, rdInt, rdSub, rdLt, rdLe, rdGt, rdGe, rdFdiv, rdMod, rdPow, at0, at1, at2, i30, i31, i32, set0, set1, set2, MO.lst.injEq, gup_same, gup_gup, ad_ii, ad_ss, ad_tt, ad_ll, mu_ii, mu_li, mu_ti, ix_t, ix_l, ix_s, ix_r, ix_w, ln_t, ln_l, ln_s, ln_w, ln_r, sr_t, sr_l, sr_s, sr_r, sl_t, sl_l, sl_s, sl_r, sl_w, tu_t, tu_l, tu_r, li_t, li_l, li_r, lm_t, lm_l, mx2, mn2, ab1, in1, is2, rdIsB, rdNotB, rdIsN, rdNotN, TD.isNon, List.map_cons, List.map_nil, List.length_cons, List.length_nil, List.replicate_succ, List.replicate_zero, List.cons_append, List.nil_append, List.append_nil, Nat.zero_add, Nat.reduceAdd, Nat.reduceSub, Nat.sub_self, Nat.add_sub_cancel, List.getElem?_cons_zero, List.getElem?_cons_succ, List.getElem?_nil, List.set_cons_zero, List.set_cons_succ, List.set_nil, Option.some.injEq, D.int.injEq, D.bl.injEq, D.str.injEq, D.ref.injEq, D.ty.injEq, D.tup.injEq, D.lst.injEq, List.cons.injEq, and_true, true_and, ex_two, ex_two', exists_eq_left', exists_eq_left, exists_and_left, exists_and_right, exists_const, exists_eq_right, exists_eq_right', Bool.not_true, Bool.not_false, if_true, if_false, Bool.false_eq_true, reduceCtorEq, false_and, and_false, decide_true, decide_false]
  refine ⟨ts, rfl, w, g1, g2, s1, by omega, fun q G1 B e1 => ?_⟩
  try simp only [dRet, dRetN, dSeq, dAsg, dDrop, dIfS, dNext, dBreak, dCont, dPar, dSetL, dSetD, dFor, dVar, dC, dOp, dAndV, dOrV, dNotV, dAnd, dOr, dNot, dIf, dTest, dChain, dNil, dCons, dTup, dLst, dLstM, dStar, dNeg, dCB, dCall, dCallK, dMthT, dMth0, dLc, dYes, dISeq, dIStr, dIEnum, dIZip, dIRng1, dIRng2, dSl, dPart, dNoPart, dRaise, dDisp1, dNewD, dRevL, dRevT, dSortSet, dSortSetL, dIRng3, dGet2, dIKeys, dNewT, dSetT, dLstRg, dPar3, dLamA, dLamB, gdName, gdTup, gdCons, gdNil, dstart, dwipe, dAug, rdInt, rdSub, rdLt, rdLe, rdGt, rdGe, rdFdiv, rdMod, rdPow, at0, at1, at2, i30, i31, i32, set0, set1, set2, MO.lst.injEq, gup_same, gup_gup, ad_ii, ad_ss, ad_tt, ad_ll, mu_ii, mu_li, mu_ti, ix_t, ix_l, ix_s, ix_r, ix_w, ln_t, ln_l, ln_s, ln_w, ln_r, sr_t, sr_l, sr_s, sr_r, sl_t, sl_l, sl_s, sl_r, sl_w, tu_t, tu_l, tu_r, li_t, li_l, li_r, lm_t, lm_l, mx2, mn2, ab1, in1, is2, rdIsB, rdNotB, rdIsN, rdNotN, TD.isNon, List.map_cons, List.map_nil, List.length_cons, List.length_nil, List.replicate_succ, List.replicate_zero, List.cons_append, List.nil_append, List.append_nil, Nat.zero_add, Nat.reduceAdd, Nat.reduceSub, Nat.sub_self, Nat.add_sub_cancel, List.getElem?_cons_zero, List.getElem?_cons_succ, List.getElem?_nil, List.set_cons_zero, List.set_cons_succ, List.set_nil, Option.some.injEq, D.int.injEq, D.bl.injEq, D.str.injEq, D.ref.injEq, D.ty.injEq, D.tup.injEq, D.lst.injEq, List.cons.injEq, and_true, true_and, ex_two, ex_two', exists_eq_left', exists_eq_left, exists_and_left, exists_and_right, exists_const, exists_eq_right, exists_eq_right', Bool.not_true, Bool.not_false, if_true, if_false, Bool.false_eq_true, reduceCtorEq, false_and, and_false, decide_true, decide_false]
  refine bridge_ok w g1 g2 s1 s2 fun q' G2 B' e2 => ?_
  have u2 : Upd a m G G2 := (Upd.refl hc).ext (e1.trans e2)
  try simp only [dRet, dRetN, dSeq, dAsg, dDrop, dIfS, dNext, dBreak, dCont, dPar, dSetL, dSetD, dFor, dVar, dC, dOp, dAndV, dOrV, dNotV, dAnd, dOr, dNot, dIf, dTest, dChain, dNil, dCons, dTup, dLst, dLstM, dStar, dNeg, dCB, dCall, dCallK, dMthT, dMth0, dLc, dYes, dISeq, dIStr, dIEnum, dIZip, dIRng1, dIRng2, dSl, dPart, dNoPart, dRaise, dDisp1, dNewD, dRevL, dRevT, dSortSet, dSortSetL, dIRng3, dGet2, dIKeys, dNewT, dSetT, dLstRg, dPar3, dLamA, dLamB, gdName, gdTup, gdCons, gdNil, dstart, dwipe, dAug, rdInt, rdSub, rdLt, rdLe, rdGt, rdGe, rdFdiv, rdMod, rdPow, at0, at1, at2, i30, i31, i32, set0, set1, set2, MO.lst.injEq, gup_same, gup_gup, ad_ii, ad_ss, ad_tt, ad_ll, mu_ii, mu_li, mu_ti, ix_t, ix_l, ix_s, ix_r, ix_w, ln_t, ln_l, ln_s, ln_w, ln_r, sr_t, sr_l, sr_s, sr_r, sl_t, sl_l, sl_s, sl_r, sl_w, tu_t, tu_l, tu_r, li_t, li_l, li_r, lm_t, lm_l, mx2, mn2, ab1, in1, is2, rdIsB, rdNotB, rdIsN, rdNotN, TD.isNon, List.map_cons, List.map_nil, List.length_cons, List.length_nil, List.replicate_succ, List.replicate_zero, List.cons_append, List.nil_append, List.append_nil, Nat.zero_add, Nat.reduceAdd, Nat.reduceSub, Nat.sub_self, Nat.add_sub_cancel, List.getElem?_cons_zero, List.getElem?_cons_succ, List.getElem?_nil, List.set_cons_zero, List.set_cons_succ, List.set_nil, Option.some.injEq, D.int.injEq, D.bl.injEq, D.str.injEq, D.ref.injEq, D.ty.injEq, D.tup.injEq, D.lst.injEq, List.cons.injEq, and_true, true_and, ex_two, ex_two', exists_eq_left', exists_eq_left, exists_and_left, exists_and_right, exists_const, exists_eq_right, exists_eq_right', Bool.not_true, Bool.not_false, if_true, if_false, Bool.false_eq_true, reduceCtorEq, false_and, and_false, decide_true, decide_false]
  refine ⟨m, ts, rfl, w, g1, g2, u2.2, by omega, fun c G3 hcv hl hb u3 => ?_⟩
  try simp only [dRet, dRetN, dSeq, dAsg, dDrop, dIfS, dNext, dBreak, dCont, dPar, dSetL, dSetD, dFor, dVar, dC, dOp, dAndV, dOrV, dNotV, dAnd, dOr, dNot, dIf, dTest, dChain, dNil, dCons, dTup, dLst, dLstM, dStar, dNeg, dCB, dCall, dCallK, dMthT, dMth0, dLc, dYes, dISeq, dIStr, dIEnum, dIZip, dIRng1, dIRng2, dSl, dPart, dNoPart, dRaise, dDisp1, dNewD, dRevL, dRevT, dSortSet, dSortSetL, dIRng3, dGet2, dIKeys, dNewT, dSetT, dLstRg, dPar3, dLamA, dLamB, gdName, gdTup, gdCons, gdNil, dstart, dwipe, dAug, rdInt, rdSub, rdLt, rdLe, rdGt, rdGe, rdFdiv, rdMod, rdPow, at0, at1, at2, i30, i31, i32, set0, set1, set2, MO.lst.injEq, gup_same, gup_gup, ad_ii, ad_ss, ad_tt, ad_ll, mu_ii, mu_li, mu_ti, ix_t, ix_l, ix_s, ix_r, ix_w, ln_t, ln_l, ln_s, ln_w, ln_r, sr_t, sr_l, sr_s, sr_r, sl_t, sl_l, sl_s, sl_r, sl_w, tu_t, tu_l, tu_r, li_t, li_l, li_r, lm_t, lm_l, mx2, mn2, ab1, in1, is2, rdIsB, rdNotB, rdIsN, rdNotN, TD.isNon, List.map_cons, List.map_nil, List.length_cons, List.length_nil, List.replicate_succ, List.replicate_zero, List.cons_append, List.nil_append, List.append_nil, Nat.zero_add, Nat.reduceAdd, Nat.reduceSub, Nat.sub_self, Nat.add_sub_cancel, List.getElem?_cons_zero, List.getElem?_cons_succ, List.getElem?_nil, List.set_cons_zero, List.set_cons_succ, List.set_nil, Option.some.injEq, D.int.injEq, D.bl.injEq, D.str.injEq, D.ref.injEq, D.ty.injEq, D.tup.injEq, D.lst.injEq, List.cons.injEq, and_true, true_and, ex_two, ex_two', exists_eq_left', exists_eq_left, exists_and_left, exists_and_right, exists_const, exists_eq_right, exists_eq_right', Bool.not_true, Bool.not_false, if_true, if_false, Bool.false_eq_true, reduceCtorEq, false_and, and_false, decide_true, decide_false]
  rw [B.uniq B']
  exact rest q' c G3 B' hcv hl hb (u2.trans u3)
theorem stC {A : Ad} {a : Addr} {m : Nat} {G : GH} {Q : DK} {x : XD} {far gap span : Int} {ts : Trucks} {q : Int × Convoy} {c : Convoy} (hc : Dc G a m) (w : WTs ts) (h3 : far = 3 → ∀ t ∈ ts, t.len ≤ 3) (g1 : 1 ≤ gap) (g2 : gap ≤ 20) (s1 : 0 ≤ span) (s2 : span ≤ 100) (B : Best ts gap span (-30) q)
    (rest : ∀ G', Upd a m G G' → tl__law_right_5 A (LE Q x) [some (.ref a), some (.int far), none, some (trsD ts), some (.int gap), some (.int span), some (.int q.1), some (frsD q.2), some (frsD c), none, none, none, none, none, none, none] G') :
    tl__law_right_3 A (LE Q x) [some (.ref a), some (.int far), none, some (trsD ts), some (.int gap), some (.int span), some (.int q.1), some (frsD q.2), some (frsD c), none, none, none, none, none, none, none] G := by
  unfold tl__law_right_3
  simp only [dRet, dRetN, dSeq, dAsg, dDrop, dIfS, dNext, dBreak, dCont, dPar, dSetL, dSetD, dFor, dVar, dC, dOp, dAndV, dOrV, dNotV, dAnd, dOr, dNot, dIf, dTest, dChain, dNil, dCons, dTup, dLst, dLstM, dStar, dNeg, dCB, dCall, dCallK, dMthT, dMth0, dLc, dYes, dISeq, dIStr, dIEnum, dIZip, dIRng1, dIRng2, dSl, dPart, dNoPart, dRaise, dDisp1, dNewD, dRevL, dRevT, dSortSet, dSortSetL, dIRng3, dGet2, dIKeys, dNewT, dSetT, dLstRg, dPar3, dLamA, dLamB, gdName, gdTup, gdCons, gdNil, dstart, dwipe, dAug, rdInt, rdSub, rdLt, rdLe, rdGt, rdGe, rdFdiv, rdMod, rdPow, at0, at1, at2, i30, i31, i32, set0, set1, set2, MO.lst.injEq, gup_same, gup_gup, ad_ii, ad_ss, ad_tt, ad_ll, mu_ii, mu_li, mu_ti, ix_t, ix_l, ix_s, ix_r, ix_w, ln_t, ln_l, ln_s, ln_w, ln_r, sr_t, sr_l, sr_s, sr_r, sl_t, sl_l, sl_s, sl_r, sl_w, tu_t, tu_l, tu_r, li_t, li_l, li_r, lm_t, lm_l, mx2, mn2, ab1, in1, is2, rdIsB, rdNotB, rdIsN, rdNotN, TD.isNon, List.map_cons, List.map_nil, List.length_cons, List.length_nil, List.replicate_succ, List.replicate_zero, List.cons_append, List.nil_append, List.append_nil, Nat.zero_add, Nat.reduceAdd, Nat.reduceSub, Nat.sub_self, Nat.add_sub_cancel, List.getElem?_cons_zero, List.getElem?_cons_succ, List.getElem?_nil, List.set_cons_zero, List.set_cons_succ, List.set_nil, Option.some.injEq, D.int.injEq, D.bl.injEq, D.str.injEq, D.ref.injEq, D.ty.injEq, D.tup.injEq, D.lst.injEq, List.cons.injEq, and_true, true_and, ex_two, ex_two', exists_eq_left', exists_eq_left, exists_and_left, exists_and_right, exists_const, exists_eq_right, exists_eq_right', Bool.not_true, Bool.not_false, if_true, if_false, Bool.false_eq_true, reduceCtorEq, false_and, and_false, decide_true, decide_false, pick3]
  refine heavy_of w g1 g2 s1 s2 B fun G1 e1 => ne_same_i ?_
  try simp only [dRet, dRetN, dSeq, dAsg, dDrop, dIfS, dNext, dBreak, dCont, dPar, dSetL, dSetD, dFor, dVar, dC, dOp, dAndV, dOrV, dNotV, dAnd, dOr, dNot, dIf, dTest, dChain, dNil, dCons, dTup, dLst, dLstM, dStar, dNeg, dCB, dCall, dCallK, dMthT, dMth0, dLc, dYes, dISeq, dIStr, dIEnum, dIZip, dIRng1, dIRng2, dSl, dPart, dNoPart, dRaise, dDisp1, dNewD, dRevL, dRevT, dSortSet, dSortSetL, dIRng3, dGet2, dIKeys, dNewT, dSetT, dLstRg, dPar3, dLamA, dLamB, gdName, gdTup, gdCons, gdNil, dstart, dwipe, dAug, rdInt, rdSub, rdLt, rdLe, rdGt, rdGe, rdFdiv, rdMod, rdPow, at0, at1, at2, i30, i31, i32, set0, set1, set2, MO.lst.injEq, gup_same, gup_gup, ad_ii, ad_ss, ad_tt, ad_ll, mu_ii, mu_li, mu_ti, ix_t, ix_l, ix_s, ix_r, ix_w, ln_t, ln_l, ln_s, ln_w, ln_r, sr_t, sr_l, sr_s, sr_r, sl_t, sl_l, sl_s, sl_r, sl_w, tu_t, tu_l, tu_r, li_t, li_l, li_r, lm_t, lm_l, mx2, mn2, ab1, in1, is2, rdIsB, rdNotB, rdIsN, rdNotN, TD.isNon, List.map_cons, List.map_nil, List.length_cons, List.length_nil, List.replicate_succ, List.replicate_zero, List.cons_append, List.nil_append, List.append_nil, Nat.zero_add, Nat.reduceAdd, Nat.reduceSub, Nat.sub_self, Nat.add_sub_cancel, List.getElem?_cons_zero, List.getElem?_cons_succ, List.getElem?_nil, List.set_cons_zero, List.set_cons_succ, List.set_nil, Option.some.injEq, D.int.injEq, D.bl.injEq, D.str.injEq, D.ref.injEq, D.ty.injEq, D.tup.injEq, D.lst.injEq, List.cons.injEq, and_true, true_and, ex_two, ex_two', exists_eq_left', exists_eq_left, exists_and_left, exists_and_right, exists_const, exists_eq_right, exists_eq_right', Bool.not_true, Bool.not_false, if_true, if_false, Bool.false_eq_true, reduceCtorEq, false_and, and_false, decide_true, decide_false]
  refine heavy_of w g1 g2 s1 s2 B fun G2 e2 => ne_same_i ?_
  try simp only [dRet, dRetN, dSeq, dAsg, dDrop, dIfS, dNext, dBreak, dCont, dPar, dSetL, dSetD, dFor, dVar, dC, dOp, dAndV, dOrV, dNotV, dAnd, dOr, dNot, dIf, dTest, dChain, dNil, dCons, dTup, dLst, dLstM, dStar, dNeg, dCB, dCall, dCallK, dMthT, dMth0, dLc, dYes, dISeq, dIStr, dIEnum, dIZip, dIRng1, dIRng2, dSl, dPart, dNoPart, dRaise, dDisp1, dNewD, dRevL, dRevT, dSortSet, dSortSetL, dIRng3, dGet2, dIKeys, dNewT, dSetT, dLstRg, dPar3, dLamA, dLamB, gdName, gdTup, gdCons, gdNil, dstart, dwipe, dAug, rdInt, rdSub, rdLt, rdLe, rdGt, rdGe, rdFdiv, rdMod, rdPow, at0, at1, at2, i30, i31, i32, set0, set1, set2, MO.lst.injEq, gup_same, gup_gup, ad_ii, ad_ss, ad_tt, ad_ll, mu_ii, mu_li, mu_ti, ix_t, ix_l, ix_s, ix_r, ix_w, ln_t, ln_l, ln_s, ln_w, ln_r, sr_t, sr_l, sr_s, sr_r, sl_t, sl_l, sl_s, sl_r, sl_w, tu_t, tu_l, tu_r, li_t, li_l, li_r, lm_t, lm_l, mx2, mn2, ab1, in1, is2, rdIsB, rdNotB, rdIsN, rdNotN, TD.isNon, List.map_cons, List.map_nil, List.length_cons, List.length_nil, List.replicate_succ, List.replicate_zero, List.cons_append, List.nil_append, List.append_nil, Nat.zero_add, Nat.reduceAdd, Nat.reduceSub, Nat.sub_self, Nat.add_sub_cancel, List.getElem?_cons_zero, List.getElem?_cons_succ, List.getElem?_nil, List.set_cons_zero, List.set_cons_succ, List.set_nil, Option.some.injEq, D.int.injEq, D.bl.injEq, D.str.injEq, D.ref.injEq, D.ty.injEq, D.tup.injEq, D.lst.injEq, List.cons.injEq, and_true, true_and, ex_two, ex_two', exists_eq_left', exists_eq_left, exists_and_left, exists_and_right, exists_const, exists_eq_right, exists_eq_right', Bool.not_true, Bool.not_false, if_true, if_false, Bool.false_eq_true, reduceCtorEq, false_and, and_false, decide_true, decide_false]
  refine ⟨ts, rfl, pur_frs _, ?_⟩
  rw [decs_frs, cvB_best w g1 s2 B, B.ld]
  simp only [decide_true, Bool.and_true, dRet, dRetN, dSeq, dAsg, dDrop, dIfS, dNext, dBreak, dCont, dPar, dSetL, dSetD, dFor, dVar, dC, dOp, dAndV, dOrV, dNotV, dAnd, dOr, dNot, dIf, dTest, dChain, dNil, dCons, dTup, dLst, dLstM, dStar, dNeg, dCB, dCall, dCallK, dMthT, dMth0, dLc, dYes, dISeq, dIStr, dIEnum, dIZip, dIRng1, dIRng2, dSl, dPart, dNoPart, dRaise, dDisp1, dNewD, dRevL, dRevT, dSortSet, dSortSetL, dIRng3, dGet2, dIKeys, dNewT, dSetT, dLstRg, dPar3, dLamA, dLamB, gdName, gdTup, gdCons, gdNil, dstart, dwipe, dAug, rdInt, rdSub, rdLt, rdLe, rdGt, rdGe, rdFdiv, rdMod, rdPow, at0, at1, at2, i30, i31, i32, set0, set1, set2, MO.lst.injEq, gup_same, gup_gup, ad_ii, ad_ss, ad_tt, ad_ll, mu_ii, mu_li, mu_ti, ix_t, ix_l, ix_s, ix_r, ix_w, ln_t, ln_l, ln_s, ln_w, ln_r, sr_t, sr_l, sr_s, sr_r, sl_t, sl_l, sl_s, sl_r, sl_w, tu_t, tu_l, tu_r, li_t, li_l, li_r, lm_t, lm_l, mx2, mn2, ab1, in1, is2, rdIsB, rdNotB, rdIsN, rdNotN, TD.isNon, List.map_cons, List.map_nil, List.length_cons, List.length_nil, List.replicate_succ, List.replicate_zero, List.cons_append, List.nil_append, List.append_nil, Nat.zero_add, Nat.reduceAdd, Nat.reduceSub, Nat.sub_self, Nat.add_sub_cancel, List.getElem?_cons_zero, List.getElem?_cons_succ, List.getElem?_nil, List.set_cons_zero, List.set_cons_succ, List.set_nil, Option.some.injEq, D.int.injEq, D.bl.injEq, D.str.injEq, D.ref.injEq, D.ty.injEq, D.tup.injEq, D.lst.injEq, List.cons.injEq, and_true, true_and, ex_two, ex_two', exists_eq_left', exists_eq_left, exists_and_left, exists_and_right, exists_const, exists_eq_right, exists_eq_right', Bool.not_true, Bool.not_false, if_true, if_false, Bool.false_eq_true, reduceCtorEq, false_and, and_false, decide_true, decide_false]
  have u2 : Upd a m G G2 := (Upd.refl hc).ext (e1.trans e2)
  refine eq_pur rfl rfl ⟨_, rfl, ?_⟩
  rw [deq_ii]
  by_cases hf : far = 3
  · subst hf
    simp only [dRet, dRetN, dSeq, dAsg, dDrop, dIfS, dNext, dBreak, dCont, dPar, dSetL, dSetD, dFor, dVar, dC, dOp, dAndV, dOrV, dNotV, dAnd, dOr, dNot, dIf, dTest, dChain, dNil, dCons, dTup, dLst, dLstM, dStar, dNeg, dCB, dCall, dCallK, dMthT, dMth0, dLc, dYes, dISeq, dIStr, dIEnum, dIZip, dIRng1, dIRng2, dSl, dPart, dNoPart, dRaise, dDisp1, dNewD, dRevL, dRevT, dSortSet, dSortSetL, dIRng3, dGet2, dIKeys, dNewT, dSetT, dLstRg, dPar3, dLamA, dLamB, gdName, gdTup, gdCons, gdNil, dstart, dwipe, dAug, rdInt, rdSub, rdLt, rdLe, rdGt, rdGe, rdFdiv, rdMod, rdPow, at0, at1, at2, i30, i31, i32, set0, set1, set2, MO.lst.injEq, gup_same, gup_gup, ad_ii, ad_ss, ad_tt, ad_ll, mu_ii, mu_li, mu_ti, ix_t, ix_l, ix_s, ix_r, ix_w, ln_t, ln_l, ln_s, ln_w, ln_r, sr_t, sr_l, sr_s, sr_r, sl_t, sl_l, sl_s, sl_r, sl_w, tu_t, tu_l, tu_r, li_t, li_l, li_r, lm_t, lm_l, mx2, mn2, ab1, in1, is2, rdIsB, rdNotB, rdIsN, rdNotN, TD.isNon, List.map_cons, List.map_nil, List.length_cons, List.length_nil, List.replicate_succ, List.replicate_zero, List.cons_append, List.nil_append, List.append_nil, Nat.zero_add, Nat.reduceAdd, Nat.reduceSub, Nat.sub_self, Nat.add_sub_cancel, List.getElem?_cons_zero, List.getElem?_cons_succ, List.getElem?_nil, List.set_cons_zero, List.set_cons_succ, List.set_nil, Option.some.injEq, D.int.injEq, D.bl.injEq, D.str.injEq, D.ref.injEq, D.ty.injEq, D.tup.injEq, D.lst.injEq, List.cons.injEq, and_true, true_and, ex_two, ex_two', exists_eq_left', exists_eq_left, exists_and_left, exists_and_right, exists_const, exists_eq_right, exists_eq_right', Bool.not_true, Bool.not_false, if_true, if_false, Bool.false_eq_true, reduceCtorEq, false_and, and_false, decide_true, decide_false, beq_self_eq_true]
    by_cases hs : span < 9
    · simp only [hs, dRet, dRetN, dSeq, dAsg, dDrop, dIfS, dNext, dBreak, dCont, dPar, dSetL, dSetD, dFor, dVar, dC, dOp, dAndV, dOrV, dNotV, dAnd, dOr, dNot, dIf, dTest, dChain, dNil, dCons, dTup, dLst, dLstM, dStar, dNeg, dCB, dCall, dCallK, dMthT, dMth0, dLc, dYes, dISeq, dIStr, dIEnum, dIZip, dIRng1, dIRng2, dSl, dPart, dNoPart, dRaise, dDisp1, dNewD, dRevL, dRevT, dSortSet, dSortSetL, dIRng3, dGet2, dIKeys, dNewT, dSetT, dLstRg, dPar3, dLamA, dLamB, gdName, gdTup, gdCons, gdNil, dstart, dwipe, dAug, rdInt, rdSub, rdLt, rdLe, rdGt, rdGe, rdFdiv, rdMod, rdPow, at0, at1, at2, i30, i31, i32, set0, set1, set2, MO.lst.injEq, gup_same, gup_gup, ad_ii, ad_ss, ad_tt, ad_ll, mu_ii, mu_li, mu_ti, ix_t, ix_l, ix_s, ix_r, ix_w, ln_t, ln_l, ln_s, ln_w, ln_r, sr_t, sr_l, sr_s, sr_r, sl_t, sl_l, sl_s, sl_r, sl_w, tu_t, tu_l, tu_r, li_t, li_l, li_r, lm_t, lm_l, mx2, mn2, ab1, in1, is2, rdIsB, rdNotB, rdIsN, rdNotN, TD.isNon, List.map_cons, List.map_nil, List.length_cons, List.length_nil, List.replicate_succ, List.replicate_zero, List.cons_append, List.nil_append, List.append_nil, Nat.zero_add, Nat.reduceAdd, Nat.reduceSub, Nat.sub_self, Nat.add_sub_cancel, List.getElem?_cons_zero, List.getElem?_cons_succ, List.getElem?_nil, List.set_cons_zero, List.set_cons_succ, List.set_nil, Option.some.injEq, D.int.injEq, D.bl.injEq, D.str.injEq, D.ref.injEq, D.ty.injEq, D.tup.injEq, D.lst.injEq, List.cons.injEq, and_true, true_and, ex_two, ex_two', exists_eq_left', exists_eq_left, exists_and_left, exists_and_right, exists_const, exists_eq_right, exists_eq_right', Bool.not_true, Bool.not_false, if_true, if_false, Bool.false_eq_true, reduceCtorEq, false_and, and_false, decide_true, decide_false]
      refine ⟨ts, q, rfl, w, h3 rfl, g1, g2, s1, by omega, B, fun G3 e3 => ne_same_i ?_⟩
      try simp only [dRet, dRetN, dSeq, dAsg, dDrop, dIfS, dNext, dBreak, dCont, dPar, dSetL, dSetD, dFor, dVar, dC, dOp, dAndV, dOrV, dNotV, dAnd, dOr, dNot, dIf, dTest, dChain, dNil, dCons, dTup, dLst, dLstM, dStar, dNeg, dCB, dCall, dCallK, dMthT, dMth0, dLc, dYes, dISeq, dIStr, dIEnum, dIZip, dIRng1, dIRng2, dSl, dPart, dNoPart, dRaise, dDisp1, dNewD, dRevL, dRevT, dSortSet, dSortSetL, dIRng3, dGet2, dIKeys, dNewT, dSetT, dLstRg, dPar3, dLamA, dLamB, gdName, gdTup, gdCons, gdNil, dstart, dwipe, dAug, rdInt, rdSub, rdLt, rdLe, rdGt, rdGe, rdFdiv, rdMod, rdPow, at0, at1, at2, i30, i31, i32, set0, set1, set2, MO.lst.injEq, gup_same, gup_gup, ad_ii, ad_ss, ad_tt, ad_ll, mu_ii, mu_li, mu_ti, ix_t, ix_l, ix_s, ix_r, ix_w, ln_t, ln_l, ln_s, ln_w, ln_r, sr_t, sr_l, sr_s, sr_r, sl_t, sl_l, sl_s, sl_r, sl_w, tu_t, tu_l, tu_r, li_t, li_l, li_r, lm_t, lm_l, mx2, mn2, ab1, in1, is2, rdIsB, rdNotB, rdIsN, rdNotN, TD.isNon, List.map_cons, List.map_nil, List.length_cons, List.length_nil, List.replicate_succ, List.replicate_zero, List.cons_append, List.nil_append, List.append_nil, Nat.zero_add, Nat.reduceAdd, Nat.reduceSub, Nat.sub_self, Nat.add_sub_cancel, List.getElem?_cons_zero, List.getElem?_cons_succ, List.getElem?_nil, List.set_cons_zero, List.set_cons_succ, List.set_nil, Option.some.injEq, D.int.injEq, D.bl.injEq, D.str.injEq, D.ref.injEq, D.ty.injEq, D.tup.injEq, D.lst.injEq, List.cons.injEq, and_true, true_and, ex_two, ex_two', exists_eq_left', exists_eq_left, exists_and_left, exists_and_right, exists_const, exists_eq_right, exists_eq_right', Bool.not_true, Bool.not_false, if_true, if_false, Bool.false_eq_true, reduceCtorEq, false_and, and_false, decide_true, decide_false]
      exact rest G3 (u2.ext e3)
    · simp only [hs, dRet, dRetN, dSeq, dAsg, dDrop, dIfS, dNext, dBreak, dCont, dPar, dSetL, dSetD, dFor, dVar, dC, dOp, dAndV, dOrV, dNotV, dAnd, dOr, dNot, dIf, dTest, dChain, dNil, dCons, dTup, dLst, dLstM, dStar, dNeg, dCB, dCall, dCallK, dMthT, dMth0, dLc, dYes, dISeq, dIStr, dIEnum, dIZip, dIRng1, dIRng2, dSl, dPart, dNoPart, dRaise, dDisp1, dNewD, dRevL, dRevT, dSortSet, dSortSetL, dIRng3, dGet2, dIKeys, dNewT, dSetT, dLstRg, dPar3, dLamA, dLamB, gdName, gdTup, gdCons, gdNil, dstart, dwipe, dAug, rdInt, rdSub, rdLt, rdLe, rdGt, rdGe, rdFdiv, rdMod, rdPow, at0, at1, at2, i30, i31, i32, set0, set1, set2, MO.lst.injEq, gup_same, gup_gup, ad_ii, ad_ss, ad_tt, ad_ll, mu_ii, mu_li, mu_ti, ix_t, ix_l, ix_s, ix_r, ix_w, ln_t, ln_l, ln_s, ln_w, ln_r, sr_t, sr_l, sr_s, sr_r, sl_t, sl_l, sl_s, sl_r, sl_w, tu_t, tu_l, tu_r, li_t, li_l, li_r, lm_t, lm_l, mx2, mn2, ab1, in1, is2, rdIsB, rdNotB, rdIsN, rdNotN, TD.isNon, List.map_cons, List.map_nil, List.length_cons, List.length_nil, List.replicate_succ, List.replicate_zero, List.cons_append, List.nil_append, List.append_nil, Nat.zero_add, Nat.reduceAdd, Nat.reduceSub, Nat.sub_self, Nat.add_sub_cancel, List.getElem?_cons_zero, List.getElem?_cons_succ, List.getElem?_nil, List.set_cons_zero, List.set_cons_succ, List.set_nil, Option.some.injEq, D.int.injEq, D.bl.injEq, D.str.injEq, D.ref.injEq, D.ty.injEq, D.tup.injEq, D.lst.injEq, List.cons.injEq, and_true, true_and, ex_two, ex_two', exists_eq_left', exists_eq_left, exists_and_left, exists_and_right, exists_const, exists_eq_right, exists_eq_right', Bool.not_true, Bool.not_false, if_true, if_false, Bool.false_eq_true, reduceCtorEq, false_and, and_false, decide_true, decide_false]
      exact rest G2 u2
  · have e : (far == 3) = false := by simpa using hf
    rw [e]
    simp only [dRet, dRetN, dSeq, dAsg, dDrop, dIfS, dNext, dBreak, dCont, dPar, dSetL, dSetD, dFor, dVar, dC, dOp, dAndV, dOrV, dNotV, dAnd, dOr, dNot, dIf, dTest, dChain, dNil, dCons, dTup, dLst, dLstM, dStar, dNeg, dCB, dCall, dCallK, dMthT, dMth0, dLc, dYes, dISeq, dIStr, dIEnum, dIZip, dIRng1, dIRng2, dSl, dPart, dNoPart, dRaise, dDisp1, dNewD, dRevL, dRevT, dSortSet, dSortSetL, dIRng3, dGet2, dIKeys, dNewT, dSetT, dLstRg, dPar3, dLamA, dLamB, gdName, gdTup, gdCons, gdNil, dstart, dwipe, dAug, rdInt, rdSub, rdLt, rdLe, rdGt, rdGe, rdFdiv, rdMod, rdPow, at0, at1, at2, i30, i31, i32, set0, set1, set2, MO.lst.injEq, gup_same, gup_gup, ad_ii, ad_ss, ad_tt, ad_ll, mu_ii, mu_li, mu_ti, ix_t, ix_l, ix_s, ix_r, ix_w, ln_t, ln_l, ln_s, ln_w, ln_r, sr_t, sr_l, sr_s, sr_r, sl_t, sl_l, sl_s, sl_r, sl_w, tu_t, tu_l, tu_r, li_t, li_l, li_r, lm_t, lm_l, mx2, mn2, ab1, in1, is2, rdIsB, rdNotB, rdIsN, rdNotN, TD.isNon, List.map_cons, List.map_nil, List.length_cons, List.length_nil, List.replicate_succ, List.replicate_zero, List.cons_append, List.nil_append, List.append_nil, Nat.zero_add, Nat.reduceAdd, Nat.reduceSub, Nat.sub_self, Nat.add_sub_cancel, List.getElem?_cons_zero, List.getElem?_cons_succ, List.getElem?_nil, List.set_cons_zero, List.set_cons_succ, List.set_nil, Option.some.injEq, D.int.injEq, D.bl.injEq, D.str.injEq, D.ref.injEq, D.ty.injEq, D.tup.injEq, D.lst.injEq, List.cons.injEq, and_true, true_and, ex_two, ex_two', exists_eq_left', exists_eq_left, exists_and_left, exists_and_right, exists_const, exists_eq_right, exists_eq_right', Bool.not_true, Bool.not_false, if_true, if_false, Bool.false_eq_true, reduceCtorEq, false_and, and_false, decide_true, decide_false]
    exact rest G2 u2
theorem stD {A : Ad} {a : Addr} {m : Nat} {G : GH} {Q : DK} {x : XD} {far gap span : Int} {ts : Trucks} {q : Int × Convoy} {c : Convoy} (hc : Dc G a m) (w : WTs ts) (g1 : 1 ≤ gap) (g2 : gap ≤ 20) (s1 : 0 ≤ span) (s2 : span ≤ 100) (B : Best ts gap span (-30) q)
    (hcv : Cv ts gap (-30) c) (hl : c.length ≤ 12) (hb : ∀ p ∈ c, p.1 < ts.length ∧ -30 ≤ p.2 ∧ p.2 ≤ 200)
    (rest : ∀ w' G', Upd a m G G' → tl__law_right_7 A (LE Q x) [some (.ref a), some (.int far), none, some (trsD ts), some (.int gap), some (.int span), some (.int q.1), some (frsD q.2), some (frsD c), none, none, some w', none, none, none, none] G') :
    tl__law_right_5 A (LE Q x) [some (.ref a), some (.int far), none, some (trsD ts), some (.int gap), some (.int span), some (.int q.1), some (frsD q.2), some (frsD c), none, none, none, none, none, none, none] G := by
  have hfr : ∀ n : Int, (ts.length : Int) = n → frB n (frsD c) = true := fun n hn => frB_frs (by omega) fun p hp => by
    obtain ⟨h1, h2, h3⟩ := hb p hp
    exact ⟨by omega, by omega, by omega⟩
  have hle := best_low w g1 B hcv
  unfold tl__law_right_5
  have efs : frsD c = .tup (c.map frD) := rfl
  have ets : trsD ts = .tup (ts.map trD) := rfl
  simp only [dRet, dRetN, dSeq, dAsg, dDrop, dIfS, dNext, dBreak, dCont, dPar, dSetL, dSetD, dFor, dVar, dC, dOp, dAndV, dOrV, dNotV, dAnd, dOr, dNot, dIf, dTest, dChain, dNil, dCons, dTup, dLst, dLstM, dStar, dNeg, dCB, dCall, dCallK, dMthT, dMth0, dLc, dYes, dISeq, dIStr, dIEnum, dIZip, dIRng1, dIRng2, dSl, dPart, dNoPart, dRaise, dDisp1, dNewD, dRevL, dRevT, dSortSet, dSortSetL, dIRng3, dGet2, dIKeys, dNewT, dSetT, dLstRg, dPar3, dLamA, dLamB, gdName, gdTup, gdCons, gdNil, dstart, dwipe, dAug, rdInt, rdSub, rdLt, rdLe, rdGt, rdGe, rdFdiv, rdMod, rdPow, at0, at1, at2, i30, i31, i32, set0, set1, set2, MO.lst.injEq, gup_same, gup_gup, ad_ii, ad_ss, ad_tt, ad_ll, mu_ii, mu_li, mu_ti, ix_t, ix_l, ix_s, ix_r, ix_w, ln_t, ln_l, ln_s, ln_w, ln_r, sr_t, sr_l, sr_s, sr_r, sl_t, sl_l, sl_s, sl_r, sl_w, tu_t, tu_l, tu_r, li_t, li_l, li_r, lm_t, lm_l, mx2, mn2, ab1, in1, is2, rdIsB, rdNotB, rdIsN, rdNotN, TD.isNon, List.map_cons, List.map_nil, List.length_cons, List.length_nil, List.replicate_succ, List.replicate_zero, List.cons_append, List.nil_append, List.append_nil, Nat.zero_add, Nat.reduceAdd, Nat.reduceSub, Nat.sub_self, Nat.add_sub_cancel, List.getElem?_cons_zero, List.getElem?_cons_succ, List.getElem?_nil, List.set_cons_zero, List.set_cons_succ, List.set_nil, Option.some.injEq, D.int.injEq, D.bl.injEq, D.str.injEq, D.ref.injEq, D.ty.injEq, D.tup.injEq, D.lst.injEq, List.cons.injEq, and_true, true_and, ex_two, ex_two', exists_eq_left', exists_eq_left, exists_and_left, exists_and_right, exists_const, exists_eq_right, exists_eq_right', Bool.not_true, Bool.not_false, if_true, if_false, Bool.false_eq_true, reduceCtorEq, false_and, and_false, decide_true, decide_false, pick3, efs]
  refine dComp_map (fun d => .int (onW (tOf ts (dec d).1) span (dec d).2)) trivial (fun d hd K1 k1 => ?_) ?_
  · obtain ⟨p, hp, rfl⟩ := List.mem_map.mp hd
    have ed : dec (frD p) = p := Prod.ext (Int.toNat_natCast _) rfl
    rw [ed] at k1
    simp only [frD, ets, dRet, dRetN, dSeq, dAsg, dDrop, dIfS, dNext, dBreak, dCont, dPar, dSetL, dSetD, dFor, dVar, dC, dOp, dAndV, dOrV, dNotV, dAnd, dOr, dNot, dIf, dTest, dChain, dNil, dCons, dTup, dLst, dLstM, dStar, dNeg, dCB, dCall, dCallK, dMthT, dMth0, dLc, dYes, dISeq, dIStr, dIEnum, dIZip, dIRng1, dIRng2, dSl, dPart, dNoPart, dRaise, dDisp1, dNewD, dRevL, dRevT, dSortSet, dSortSetL, dIRng3, dGet2, dIKeys, dNewT, dSetT, dLstRg, dPar3, dLamA, dLamB, gdName, gdTup, gdCons, gdNil, dstart, dwipe, dAug, rdInt, rdSub, rdLt, rdLe, rdGt, rdGe, rdFdiv, rdMod, rdPow, at0, at1, at2, i30, i31, i32, set0, set1, set2, MO.lst.injEq, gup_same, gup_gup, ad_ii, ad_ss, ad_tt, ad_ll, mu_ii, mu_li, mu_ti, ix_t, ix_l, ix_s, ix_r, ix_w, ln_t, ln_l, ln_s, ln_w, ln_r, sr_t, sr_l, sr_s, sr_r, sl_t, sl_l, sl_s, sl_r, sl_w, tu_t, tu_l, tu_r, li_t, li_l, li_r, lm_t, lm_l, mx2, mn2, ab1, in1, is2, rdIsB, rdNotB, rdIsN, rdNotN, TD.isNon, List.map_cons, List.map_nil, List.length_cons, List.length_nil, List.replicate_succ, List.replicate_zero, List.cons_append, List.nil_append, List.append_nil, Nat.zero_add, Nat.reduceAdd, Nat.reduceSub, Nat.sub_self, Nat.add_sub_cancel, List.getElem?_cons_zero, List.getElem?_cons_succ, List.getElem?_nil, List.set_cons_zero, List.set_cons_succ, List.set_nil, Option.some.injEq, D.int.injEq, D.bl.injEq, D.str.injEq, D.ref.injEq, D.ty.injEq, D.tup.injEq, D.lst.injEq, List.cons.injEq, and_true, true_and, ex_two, ex_two', exists_eq_left', exists_eq_left, exists_and_left, exists_and_right, exists_const, exists_eq_right, exists_eq_right', Bool.not_true, Bool.not_false, if_true, if_false, Bool.false_eq_true, reduceCtorEq, false_and, and_false, decide_true, decide_false]
    exact ⟨_, tOf_at (hb p hp).1, _, rfl, k1⟩
  · rw [List.nil_append, List.map_map]
    have em : c.map ((fun d => D.int (onW (tOf ts (dec d).1) span (dec d).2)) ∘ frD) = (c.map fun (p : Nat × Int) => onW (tOf ts p.1) span p.2).map D.int := by
      rw [List.map_map]
      refine List.map_congr_left fun p _ => ?_
      have ed : dec (frD p) = p := Prod.ext (Int.toNat_natCast _) rfl
      show D.int (onW (tOf ts (dec (frD p)).1) span (dec (frD p)).2) = _
      rw [ed]; rfl
    rw [em]
    refine ⟨_, _, rfl, dInts_map _, ?_⟩
    have es : (c.map fun (p : Nat × Int) => onW (tOf ts p.1) span p.2).sum = loadW ts span c := rfl
    rw [es, ← efs]
    try simp only [dRet, dRetN, dSeq, dAsg, dDrop, dIfS, dNext, dBreak, dCont, dPar, dSetL, dSetD, dFor, dVar, dC, dOp, dAndV, dOrV, dNotV, dAnd, dOr, dNot, dIf, dTest, dChain, dNil, dCons, dTup, dLst, dLstM, dStar, dNeg, dCB, dCall, dCallK, dMthT, dMth0, dLc, dYes, dISeq, dIStr, dIEnum, dIZip, dIRng1, dIRng2, dSl, dPart, dNoPart, dRaise, dDisp1, dNewD, dRevL, dRevT, dSortSet, dSortSetL, dIRng3, dGet2, dIKeys, dNewT, dSetT, dLstRg, dPar3, dLamA, dLamB, gdName, gdTup, gdCons, gdNil, dstart, dwipe, dAug, rdInt, rdSub, rdLt, rdLe, rdGt, rdGe, rdFdiv, rdMod, rdPow, at0, at1, at2, i30, i31, i32, set0, set1, set2, MO.lst.injEq, gup_same, gup_gup, ad_ii, ad_ss, ad_tt, ad_ll, mu_ii, mu_li, mu_ti, ix_t, ix_l, ix_s, ix_r, ix_w, ln_t, ln_l, ln_s, ln_w, ln_r, sr_t, sr_l, sr_s, sr_r, sl_t, sl_l, sl_s, sl_r, sl_w, tu_t, tu_l, tu_r, li_t, li_l, li_r, lm_t, lm_l, mx2, mn2, ab1, in1, is2, rdIsB, rdNotB, rdIsN, rdNotN, TD.isNon, List.map_cons, List.map_nil, List.length_cons, List.length_nil, List.replicate_succ, List.replicate_zero, List.cons_append, List.nil_append, List.append_nil, Nat.zero_add, Nat.reduceAdd, Nat.reduceSub, Nat.sub_self, Nat.add_sub_cancel, List.getElem?_cons_zero, List.getElem?_cons_succ, List.getElem?_nil, List.set_cons_zero, List.set_cons_succ, List.set_nil, Option.some.injEq, D.int.injEq, D.bl.injEq, D.str.injEq, D.ref.injEq, D.ty.injEq, D.tup.injEq, D.lst.injEq, List.cons.injEq, and_true, true_and, ex_two, ex_two', exists_eq_left', exists_eq_left, exists_and_left, exists_and_right, exists_const, exists_eq_right, exists_eq_right', Bool.not_true, Bool.not_false, if_true, if_false, Bool.false_eq_true, reduceCtorEq, false_and, and_false, decide_true, decide_false, pick3]
    refine load_of w s1 s2 hfr (ne_same_i ?_)
    try simp only [dRet, dRetN, dSeq, dAsg, dDrop, dIfS, dNext, dBreak, dCont, dPar, dSetL, dSetD, dFor, dVar, dC, dOp, dAndV, dOrV, dNotV, dAnd, dOr, dNot, dIf, dTest, dChain, dNil, dCons, dTup, dLst, dLstM, dStar, dNeg, dCB, dCall, dCallK, dMthT, dMth0, dLc, dYes, dISeq, dIStr, dIEnum, dIZip, dIRng1, dIRng2, dSl, dPart, dNoPart, dRaise, dDisp1, dNewD, dRevL, dRevT, dSortSet, dSortSetL, dIRng3, dGet2, dIKeys, dNewT, dSetT, dLstRg, dPar3, dLamA, dLamB, gdName, gdTup, gdCons, gdNil, dstart, dwipe, dAug, rdInt, rdSub, rdLt, rdLe, rdGt, rdGe, rdFdiv, rdMod, rdPow, at0, at1, at2, i30, i31, i32, set0, set1, set2, MO.lst.injEq, gup_same, gup_gup, ad_ii, ad_ss, ad_tt, ad_ll, mu_ii, mu_li, mu_ti, ix_t, ix_l, ix_s, ix_r, ix_w, ln_t, ln_l, ln_s, ln_w, ln_r, sr_t, sr_l, sr_s, sr_r, sl_t, sl_l, sl_s, sl_r, sl_w, tu_t, tu_l, tu_r, li_t, li_l, li_r, lm_t, lm_l, mx2, mn2, ab1, in1, is2, rdIsB, rdNotB, rdIsN, rdNotN, TD.isNon, List.map_cons, List.map_nil, List.length_cons, List.length_nil, List.replicate_succ, List.replicate_zero, List.cons_append, List.nil_append, List.append_nil, Nat.zero_add, Nat.reduceAdd, Nat.reduceSub, Nat.sub_self, Nat.add_sub_cancel, List.getElem?_cons_zero, List.getElem?_cons_succ, List.getElem?_nil, List.set_cons_zero, List.set_cons_succ, List.set_nil, Option.some.injEq, D.int.injEq, D.bl.injEq, D.str.injEq, D.ref.injEq, D.ty.injEq, D.tup.injEq, D.lst.injEq, List.cons.injEq, and_true, true_and, ex_two, ex_two', exists_eq_left', exists_eq_left, exists_and_left, exists_and_right, exists_const, exists_eq_right, exists_eq_right', Bool.not_true, Bool.not_false, if_true, if_false, Bool.false_eq_true, reduceCtorEq, false_and, and_false, decide_true, decide_false, pick3]
    refine load_of w s1 s2 hfr (ne_same_i ?_)
    try simp only [dRet, dRetN, dSeq, dAsg, dDrop, dIfS, dNext, dBreak, dCont, dPar, dSetL, dSetD, dFor, dVar, dC, dOp, dAndV, dOrV, dNotV, dAnd, dOr, dNot, dIf, dTest, dChain, dNil, dCons, dTup, dLst, dLstM, dStar, dNeg, dCB, dCall, dCallK, dMthT, dMth0, dLc, dYes, dISeq, dIStr, dIEnum, dIZip, dIRng1, dIRng2, dSl, dPart, dNoPart, dRaise, dDisp1, dNewD, dRevL, dRevT, dSortSet, dSortSetL, dIRng3, dGet2, dIKeys, dNewT, dSetT, dLstRg, dPar3, dLamA, dLamB, gdName, gdTup, gdCons, gdNil, dstart, dwipe, dAug, rdInt, rdSub, rdLt, rdLe, rdGt, rdGe, rdFdiv, rdMod, rdPow, at0, at1, at2, i30, i31, i32, set0, set1, set2, MO.lst.injEq, gup_same, gup_gup, ad_ii, ad_ss, ad_tt, ad_ll, mu_ii, mu_li, mu_ti, ix_t, ix_l, ix_s, ix_r, ix_w, ln_t, ln_l, ln_s, ln_w, ln_r, sr_t, sr_l, sr_s, sr_r, sl_t, sl_l, sl_s, sl_r, sl_w, tu_t, tu_l, tu_r, li_t, li_l, li_r, lm_t, lm_l, mx2, mn2, ab1, in1, is2, rdIsB, rdNotB, rdIsN, rdNotN, TD.isNon, List.map_cons, List.map_nil, List.length_cons, List.length_nil, List.replicate_succ, List.replicate_zero, List.cons_append, List.nil_append, List.append_nil, Nat.zero_add, Nat.reduceAdd, Nat.reduceSub, Nat.sub_self, Nat.add_sub_cancel, List.getElem?_cons_zero, List.getElem?_cons_succ, List.getElem?_nil, List.set_cons_zero, List.set_cons_succ, List.set_nil, Option.some.injEq, D.int.injEq, D.bl.injEq, D.str.injEq, D.ref.injEq, D.ty.injEq, D.tup.injEq, D.lst.injEq, List.cons.injEq, and_true, true_and, ex_two, ex_two', exists_eq_left', exists_eq_left, exists_and_left, exists_and_right, exists_const, exists_eq_right, exists_eq_right', Bool.not_true, Bool.not_false, if_true, if_false, Bool.false_eq_true, reduceCtorEq, false_and, and_false, decide_true, decide_false, pick3]
    have e1 : decide (q.1 < loadW ts span c) = false := decide_eq_false (by omega)
    rw [e1]
    simp only [dRet, dRetN, dSeq, dAsg, dDrop, dIfS, dNext, dBreak, dCont, dPar, dSetL, dSetD, dFor, dVar, dC, dOp, dAndV, dOrV, dNotV, dAnd, dOr, dNot, dIf, dTest, dChain, dNil, dCons, dTup, dLst, dLstM, dStar, dNeg, dCB, dCall, dCallK, dMthT, dMth0, dLc, dYes, dISeq, dIStr, dIEnum, dIZip, dIRng1, dIRng2, dSl, dPart, dNoPart, dRaise, dDisp1, dNewD, dRevL, dRevT, dSortSet, dSortSetL, dIRng3, dGet2, dIKeys, dNewT, dSetT, dLstRg, dPar3, dLamA, dLamB, gdName, gdTup, gdCons, gdNil, dstart, dwipe, dAug, rdInt, rdSub, rdLt, rdLe, rdGt, rdGe, rdFdiv, rdMod, rdPow, at0, at1, at2, i30, i31, i32, set0, set1, set2, MO.lst.injEq, gup_same, gup_gup, ad_ii, ad_ss, ad_tt, ad_ll, mu_ii, mu_li, mu_ti, ix_t, ix_l, ix_s, ix_r, ix_w, ln_t, ln_l, ln_s, ln_w, ln_r, sr_t, sr_l, sr_s, sr_r, sl_t, sl_l, sl_s, sl_r, sl_w, tu_t, tu_l, tu_r, li_t, li_l, li_r, lm_t, lm_l, mx2, mn2, ab1, in1, is2, rdIsB, rdNotB, rdIsN, rdNotN, TD.isNon, List.map_cons, List.map_nil, List.length_cons, List.length_nil, List.replicate_succ, List.replicate_zero, List.cons_append, List.nil_append, List.append_nil, Nat.zero_add, Nat.reduceAdd, Nat.reduceSub, Nat.sub_self, Nat.add_sub_cancel, List.getElem?_cons_zero, List.getElem?_cons_succ, List.getElem?_nil, List.set_cons_zero, List.set_cons_succ, List.set_nil, Option.some.injEq, D.int.injEq, D.bl.injEq, D.str.injEq, D.ref.injEq, D.ty.injEq, D.tup.injEq, D.lst.injEq, List.cons.injEq, and_true, true_and, ex_two, ex_two', exists_eq_left', exists_eq_left, exists_and_left, exists_and_right, exists_const, exists_eq_right, exists_eq_right', Bool.not_true, Bool.not_false, if_true, if_false, Bool.false_eq_true, reduceCtorEq, false_and, and_false, decide_true, decide_false]
    refine isconv_of w g1 g2 s1 s2 (pur_frs _) B fun G1 e2 => ?_
    rw [decs_frs, cvB_best w g1 s2 B, B.ld]
    simp only [decide_true, Bool.and_true, dRet, dRetN, dSeq, dAsg, dDrop, dIfS, dNext, dBreak, dCont, dPar, dSetL, dSetD, dFor, dVar, dC, dOp, dAndV, dOrV, dNotV, dAnd, dOr, dNot, dIf, dTest, dChain, dNil, dCons, dTup, dLst, dLstM, dStar, dNeg, dCB, dCall, dCallK, dMthT, dMth0, dLc, dYes, dISeq, dIStr, dIEnum, dIZip, dIRng1, dIRng2, dSl, dPart, dNoPart, dRaise, dDisp1, dNewD, dRevL, dRevT, dSortSet, dSortSetL, dIRng3, dGet2, dIKeys, dNewT, dSetT, dLstRg, dPar3, dLamA, dLamB, gdName, gdTup, gdCons, gdNil, dstart, dwipe, dAug, rdInt, rdSub, rdLt, rdLe, rdGt, rdGe, rdFdiv, rdMod, rdPow, at0, at1, at2, i30, i31, i32, set0, set1, set2, MO.lst.injEq, gup_same, gup_gup, ad_ii, ad_ss, ad_tt, ad_ll, mu_ii, mu_li, mu_ti, ix_t, ix_l, ix_s, ix_r, ix_w, ln_t, ln_l, ln_s, ln_w, ln_r, sr_t, sr_l, sr_s, sr_r, sl_t, sl_l, sl_s, sl_r, sl_w, tu_t, tu_l, tu_r, li_t, li_l, li_r, lm_t, lm_l, mx2, mn2, ab1, in1, is2, rdIsB, rdNotB, rdIsN, rdNotN, TD.isNon, List.map_cons, List.map_nil, List.length_cons, List.length_nil, List.replicate_succ, List.replicate_zero, List.cons_append, List.nil_append, List.append_nil, Nat.zero_add, Nat.reduceAdd, Nat.reduceSub, Nat.sub_self, Nat.add_sub_cancel, List.getElem?_cons_zero, List.getElem?_cons_succ, List.getElem?_nil, List.set_cons_zero, List.set_cons_succ, List.set_nil, Option.some.injEq, D.int.injEq, D.bl.injEq, D.str.injEq, D.ref.injEq, D.ty.injEq, D.tup.injEq, D.lst.injEq, List.cons.injEq, and_true, true_and, ex_two, ex_two', exists_eq_left', exists_eq_left, exists_and_left, exists_and_right, exists_const, exists_eq_right, exists_eq_right', Bool.not_true, Bool.not_false, if_true, if_false, Bool.false_eq_true, reduceCtorEq, false_and, and_false, decide_true, decide_false, beq_self_eq_true]
    exact rest _ G1 ((Upd.refl hc).ext e2)
theorem stE {A : Ad} {a : Addr} {m : Nat} {G : GH} {Q : DK} {x : XD} {far gap span : Int} {ts : Trucks} {q : Int × Convoy} {c : Convoy} {w' : D} (hc : Dc G a m) (hm : m ≤ 200000) (w : WTs ts) (g1 : 1 ≤ gap) (g2 : gap ≤ 20) (s1 : 0 ≤ span) (s2 : span ≤ 100) (B : Best ts gap span (-30) q)
    (hl : c.length ≤ 12)
    (rest : ∀ o2 o12 G', Upd a (m + 20) G G' → tl__law_right_8 A (LE Q x) [some (.ref a), some (.int far), o2, some (trsD ts), some (.int gap), some (.int span), some (.int q.1), some (frsD q.2), some (frsD c), none, none, some w', o12, none, none, none] G') :
    tl__law_right_7 A (LE Q x) [some (.ref a), some (.int far), none, some (trsD ts), some (.int gap), some (.int span), some (.int q.1), some (frsD q.2), some (frsD c), none, none, some w', none, none, none, none] G := by
  have hql := cv_len w g1 B.cv fun p hp => (B.fr p hp).2
  unfold tl__law_right_7
  simp only [dRet, dRetN, dSeq, dAsg, dDrop, dIfS, dNext, dBreak, dCont, dPar, dSetL, dSetD, dFor, dVar, dC, dOp, dAndV, dOrV, dNotV, dAnd, dOr, dNot, dIf, dTest, dChain, dNil, dCons, dTup, dLst, dLstM, dStar, dNeg, dCB, dCall, dCallK, dMthT, dMth0, dLc, dYes, dISeq, dIStr, dIEnum, dIZip, dIRng1, dIRng2, dSl, dPart, dNoPart, dRaise, dDisp1, dNewD, dRevL, dRevT, dSortSet, dSortSetL, dIRng3, dGet2, dIKeys, dNewT, dSetT, dLstRg, dPar3, dLamA, dLamB, gdName, gdTup, gdCons, gdNil, dstart, dwipe, dAug, rdInt, rdSub, rdLt, rdLe, rdGt, rdGe, rdFdiv, rdMod, rdPow, at0, at1, at2, i30, i31, i32, set0, set1, set2, MO.lst.injEq, gup_same, gup_gup, ad_ii, ad_ss, ad_tt, ad_ll, mu_ii, mu_li, mu_ti, ix_t, ix_l, ix_s, ix_r, ix_w, ln_t, ln_l, ln_s, ln_w, ln_r, sr_t, sr_l, sr_s, sr_r, sl_t, sl_l, sl_s, sl_r, sl_w, tu_t, tu_l, tu_r, li_t, li_l, li_r, lm_t, lm_l, mx2, mn2, ab1, in1, is2, rdIsB, rdNotB, rdIsN, rdNotN, TD.isNon, List.map_cons, List.map_nil, List.length_cons, List.length_nil, List.replicate_succ, List.replicate_zero, List.cons_append, List.nil_append, List.append_nil, Nat.zero_add, Nat.reduceAdd, Nat.reduceSub, Nat.sub_self, Nat.add_sub_cancel, List.getElem?_cons_zero, List.getElem?_cons_succ, List.getElem?_nil, List.set_cons_zero, List.set_cons_succ, List.set_nil, Option.some.injEq, D.int.injEq, D.bl.injEq, D.str.injEq, D.ref.injEq, D.ty.injEq, D.tup.injEq, D.lst.injEq, List.cons.injEq, and_true, true_and, ex_two, ex_two', exists_eq_left', exists_eq_left, exists_and_left, exists_and_right, exists_const, exists_eq_right, exists_eq_right', Bool.not_true, Bool.not_false, if_true, if_false, Bool.false_eq_true, reduceCtorEq, false_and, and_false, decide_true, decide_false]
  refine ⟨by omega, sz _ (by decide), ?_⟩
  have en : (5 : Int).toNat = 5 := rfl
  rw [en]
  refine dLoop_inv (fun k ρ G' => ∃ o2 o12, ρ = [some (.ref a), some (.int far), o2, some (trsD ts), some (.int gap), some (.int span), some (.int q.1), some (frsD q.2), some (frsD c), none, none, some w', o12, none, none, none] ∧ Upd a (m + 4 * k) G G') 0 ⟨_, _, rfl, Upd.refl hc⟩ (fun _ _ _ _ _ _ => trivial) (fun k dd ρ G1 hi hI K1 hK => ?_) (fun ρ G1 hI => ?_)
  · obtain ⟨o2, o12, rfl, u⟩ := hI
    obtain ⟨hk1, rfl⟩ := rngD_get hi
    rw [Nat.zero_add] at *
    simp only [dRet, dRetN, dSeq, dAsg, dDrop, dIfS, dNext, dBreak, dCont, dPar, dSetL, dSetD, dFor, dVar, dC, dOp, dAndV, dOrV, dNotV, dAnd, dOr, dNot, dIf, dTest, dChain, dNil, dCons, dTup, dLst, dLstM, dStar, dNeg, dCB, dCall, dCallK, dMthT, dMth0, dLc, dYes, dISeq, dIStr, dIEnum, dIZip, dIRng1, dIRng2, dSl, dPart, dNoPart, dRaise, dDisp1, dNewD, dRevL, dRevT, dSortSet, dSortSetL, dIRng3, dGet2, dIKeys, dNewT, dSetT, dLstRg, dPar3, dLamA, dLamB, gdName, gdTup, gdCons, gdNil, dstart, dwipe, dAug, rdInt, rdSub, rdLt, rdLe, rdGt, rdGe, rdFdiv, rdMod, rdPow, at0, at1, at2, i30, i31, i32, set0, set1, set2, MO.lst.injEq, gup_same, gup_gup, ad_ii, ad_ss, ad_tt, ad_ll, mu_ii, mu_li, mu_ti, ix_t, ix_l, ix_s, ix_r, ix_w, ln_t, ln_l, ln_s, ln_w, ln_r, sr_t, sr_l, sr_s, sr_r, sl_t, sl_l, sl_s, sl_r, sl_w, tu_t, tu_l, tu_r, li_t, li_l, li_r, lm_t, lm_l, mx2, mn2, ab1, in1, is2, rdIsB, rdNotB, rdIsN, rdNotN, TD.isNon, List.map_cons, List.map_nil, List.length_cons, List.length_nil, List.replicate_succ, List.replicate_zero, List.cons_append, List.nil_append, List.append_nil, Nat.zero_add, Nat.reduceAdd, Nat.reduceSub, Nat.sub_self, Nat.add_sub_cancel, List.getElem?_cons_zero, List.getElem?_cons_succ, List.getElem?_nil, List.set_cons_zero, List.set_cons_succ, List.set_nil, Option.some.injEq, D.int.injEq, D.bl.injEq, D.str.injEq, D.ref.injEq, D.ty.injEq, D.tup.injEq, D.lst.injEq, List.cons.injEq, and_true, true_and, ex_two, ex_two', exists_eq_left', exists_eq_left, exists_and_left, exists_and_right, exists_const, exists_eq_right, exists_eq_right', Bool.not_true, Bool.not_false, if_true, if_false, Bool.false_eq_true, reduceCtorEq, false_and, and_false, decide_true, decide_false]
    repeat refine and_sz (by omega) ?_
    refine pick_of u.2 (by omega) (by show 0 < 2; decide) (by show 2 < 1000000; decide) fun z hz G2 u2 => ?_
    obtain ⟨c', rfl, hl'⟩ : ∃ c' : Convoy, z = frsD c' ∧ c'.length ≤ 1000 := by
      simp only [List.mem_cons, List.not_mem_nil, or_false] at hz
      rcases hz with rfl | rfl
      · exact ⟨_, rfl, by omega⟩
      · exact ⟨_, rfl, by omega⟩
    refine ⟨_, c', rfl, hl', (u.trans u2).2, by omega, fun v G3 hv u3 => ?_⟩
    have p31 : pickK 3 1 [0] [trsD ts, .int gap, .int span] [v] = [trsD ts, .int gap, .int span, v] := by simp [pickK]
    simp only [dRet, dRetN, dSeq, dAsg, dDrop, dIfS, dNext, dBreak, dCont, dPar, dSetL, dSetD, dFor, dVar, dC, dOp, dAndV, dOrV, dNotV, dAnd, dOr, dNot, dIf, dTest, dChain, dNil, dCons, dTup, dLst, dLstM, dStar, dNeg, dCB, dCall, dCallK, dMthT, dMth0, dLc, dYes, dISeq, dIStr, dIEnum, dIZip, dIRng1, dIRng2, dSl, dPart, dNoPart, dRaise, dDisp1, dNewD, dRevL, dRevT, dSortSet, dSortSetL, dIRng3, dGet2, dIKeys, dNewT, dSetT, dLstRg, dPar3, dLamA, dLamB, gdName, gdTup, gdCons, gdNil, dstart, dwipe, dAug, rdInt, rdSub, rdLt, rdLe, rdGt, rdGe, rdFdiv, rdMod, rdPow, at0, at1, at2, i30, i31, i32, set0, set1, set2, MO.lst.injEq, gup_same, gup_gup, ad_ii, ad_ss, ad_tt, ad_ll, mu_ii, mu_li, mu_ti, ix_t, ix_l, ix_s, ix_r, ix_w, ln_t, ln_l, ln_s, ln_w, ln_r, sr_t, sr_l, sr_s, sr_r, sl_t, sl_l, sl_s, sl_r, sl_w, tu_t, tu_l, tu_r, li_t, li_l, li_r, lm_t, lm_l, mx2, mn2, ab1, in1, is2, rdIsB, rdNotB, rdIsN, rdNotN, TD.isNon, List.map_cons, List.map_nil, List.length_cons, List.length_nil, List.replicate_succ, List.replicate_zero, List.cons_append, List.nil_append, List.append_nil, Nat.zero_add, Nat.reduceAdd, Nat.reduceSub, Nat.sub_self, Nat.add_sub_cancel, List.getElem?_cons_zero, List.getElem?_cons_succ, List.getElem?_nil, List.set_cons_zero, List.set_cons_succ, List.set_nil, Option.some.injEq, D.int.injEq, D.bl.injEq, D.str.injEq, D.ref.injEq, D.ty.injEq, D.tup.injEq, D.lst.injEq, List.cons.injEq, and_true, true_and, ex_two, ex_two', exists_eq_left', exists_eq_left, exists_and_left, exists_and_right, exists_const, exists_eq_right, exists_eq_right', Bool.not_true, Bool.not_false, if_true, if_false, Bool.false_eq_true, reduceCtorEq, false_and, and_false, decide_true, decide_false, p31]
    refine isconv_of w g1 g2 s1 s2 hv B fun G4 e4 => ?_
    refine ⟨ts, rfl, hv, ne_same_b ?_⟩
    try simp only [dRet, dRetN, dSeq, dAsg, dDrop, dIfS, dNext, dBreak, dCont, dPar, dSetL, dSetD, dFor, dVar, dC, dOp, dAndV, dOrV, dNotV, dAnd, dOr, dNot, dIf, dTest, dChain, dNil, dCons, dTup, dLst, dLstM, dStar, dNeg, dCB, dCall, dCallK, dMthT, dMth0, dLc, dYes, dISeq, dIStr, dIEnum, dIZip, dIRng1, dIRng2, dSl, dPart, dNoPart, dRaise, dDisp1, dNewD, dRevL, dRevT, dSortSet, dSortSetL, dIRng3, dGet2, dIKeys, dNewT, dSetT, dLstRg, dPar3, dLamA, dLamB, gdName, gdTup, gdCons, gdNil, dstart, dwipe, dAug, rdInt, rdSub, rdLt, rdLe, rdGt, rdGe, rdFdiv, rdMod, rdPow, at0, at1, at2, i30, i31, i32, set0, set1, set2, MO.lst.injEq, gup_same, gup_gup, ad_ii, ad_ss, ad_tt, ad_ll, mu_ii, mu_li, mu_ti, ix_t, ix_l, ix_s, ix_r, ix_w, ln_t, ln_l, ln_s, ln_w, ln_r, sr_t, sr_l, sr_s, sr_r, sl_t, sl_l, sl_s, sl_r, sl_w, tu_t, tu_l, tu_r, li_t, li_l, li_r, lm_t, lm_l, mx2, mn2, ab1, in1, is2, rdIsB, rdNotB, rdIsN, rdNotN, TD.isNon, List.map_cons, List.map_nil, List.length_cons, List.length_nil, List.replicate_succ, List.replicate_zero, List.cons_append, List.nil_append, List.append_nil, Nat.zero_add, Nat.reduceAdd, Nat.reduceSub, Nat.sub_self, Nat.add_sub_cancel, List.getElem?_cons_zero, List.getElem?_cons_succ, List.getElem?_nil, List.set_cons_zero, List.set_cons_succ, List.set_nil, Option.some.injEq, D.int.injEq, D.bl.injEq, D.str.injEq, D.ref.injEq, D.ty.injEq, D.tup.injEq, D.lst.injEq, List.cons.injEq, and_true, true_and, ex_two, ex_two', exists_eq_left', exists_eq_left, exists_and_left, exists_and_right, exists_const, exists_eq_right, exists_eq_right', Bool.not_true, Bool.not_false, if_true, if_false, Bool.false_eq_true, reduceCtorEq, false_and, and_false, decide_true, decide_false]
    exact hK _ _ ⟨_, _, rfl, (((u.trans u2).trans u3).ext e4).mono (by omega)⟩
  · obtain ⟨o2, o12, rfl, u⟩ := hI
    rw [rngD_len, Nat.zero_add] at u
    exact rest o2 o12 G1 u
end K06
namespace K06
open PySem L2 TD
theorem good_list : ∀ k : Fin 22, 1 ≤ k.val → (((List.range 20).map fun i => (1 + ((i : Nat) : Int))).filter fun g => decide ((k.val : Int) ≤ g)) = (List.range (21 - k.val)).map fun i => ((k.val : Int) + ((i : Nat) : Int)) := by decide +kernel
theorem threshold {V : Int → Int} {limit : Int} (mono : ∀ g g' : Int, 1 ≤ g → g ≤ g' → V g' ≤ V g) : ∀ n : Nat, ∃ k : Nat, 1 ≤ k ∧ k ≤ n + 1 ∧ ∀ g : Int, 1 ≤ g → g ≤ n → (V g ≤ limit ↔ (k : Int) ≤ g)
  | 0 => ⟨1, Nat.le_refl _, Nat.le_refl _, fun g h1 h2 => by omega⟩
  | n + 1 => by
    obtain ⟨k, h1, h2, h3⟩ := threshold mono n
    by_cases hv : V ((n + 1 : Nat) : Int) ≤ limit
    · refine ⟨k, h1, by omega, fun g a b => ?_⟩
      by_cases e : g = ((n + 1 : Nat) : Int)
      · subst e
        exact ⟨fun _ => by omega, fun _ => hv⟩
      · exact h3 g a (by omega)
    · refine ⟨n + 2, by omega, by omega, fun g a b => ?_⟩
      by_cases e : g = ((n + 1 : Nat) : Int)
      · subst e
        exact ⟨fun h => (hv h).elim, fun h => by omega⟩
      · refine ⟨fun h => ?_, fun h => by omega⟩
        have := mono g ((n + 1 : Nat) : Int) a (by omega)
        omega
theorem deqs_self : ∀ ns : List Int, deqs (ns.map D.int) (ns.map D.int) = true
  | [] => by simp [deqs]
  | n :: r => by
    rw [List.map_cons, deqs, deqs_self r, deq_ii]
    simp
theorem deq_self (ns : List Int) : deq (.lst (ns.map D.int)) (.lst (ns.map D.int)) = true := by rw [deq]; exact deqs_self ns
theorem rngD_ints (lo : Int) (n : Nat) : rngD lo n = ((List.range n).map fun (i : Nat) => lo + (i : Int)).map D.int := by
  unfold rngD
  rw [List.map_map]
  rfl
theorem least_of {A : Ad} {ts : Trucks} {span limit : Int} {V : Int → Int × Convoy} {k : Nat} {G : GH} {Q : DK} {x : XD} (w : WTs ts) (s1 : 0 ≤ span) (s2 : span ≤ 100) (l1 : 1 ≤ limit) (l2 : limit ≤ 10000) (hV : ∀ g : Int, 1 ≤ g → Best ts g span (-30) (V g)) (hk1 : 1 ≤ k) (hk2 : k ≤ 21) (thr : ∀ g : Int, 1 ≤ g → g ≤ 20 → ((V g).1 ≤ limit ↔ (k : Int) ≤ g))
    (q : ∀ y G', Ext G G' → y = (if k ≤ 20 then D.int (k : Int) else .non) → Q y G') : sp_least_gap A [trsD ts, .int span, .int limit] G Q x :=
  ⟨pur_trs ts, rfl, rfl, fun z => (no_trs z rfl w).elim, fun ts' e w' => by
    cases trsD_inj e
    refine ⟨fun z => (isIn_int s1 s2 z).elim, fun span' es _ _ => ?_⟩
    cases es
    refine ⟨fun z => (isIn_int l1 l2 z).elim, fun limit' el _ _ => ?_⟩
    cases el
    refine ⟨fun gap G' h1 h2 e ⟨q1, B1, hq⟩ hall => ?_, fun G' e hall => ?_⟩
    · have e1 := B1.uniq (hV gap h1)
      have h3 := (thr gap h1 h2).mp (by omega)
      have h4 : gap = (k : Int) := by
        by_cases h5 : (k : Int) < gap
        · obtain ⟨q2, B2, hq2⟩ := hall (k : Int) (by omega) h5
          have e2 := B2.uniq (hV (k : Int) (by omega))
          have := (thr (k : Int) (by omega) (by omega)).mpr (Int.le_refl _)
          omega
        · omega
      refine q _ G' e ?_
      rw [if_pos (by omega), h4]
    · refine q _ G' e ?_
      by_cases h5 : k ≤ 20
      · obtain ⟨q2, B2, hq2⟩ := hall (k : Int) (by omega) (by omega)
        have e2 := B2.uniq (hV (k : Int) (by omega))
        have := (thr (k : Int) (by omega) (by omega)).mpr (Int.le_refl _)
        omega
      · rw [if_neg h5]⟩
theorem stZ {A : Ad} {a : Addr} {m : Nat} {G : GH} {Q : DK} {x : XD} {gap span : Int} {ts : Trucks} {q : Int × Convoy} (hc : Dc G a m) (hm : m ≤ 300000) (w : WTs ts) (g1 : 1 ≤ gap) (g2 : gap ≤ 20) (s1 : 0 ≤ span) (s2 : span ≤ 100) (B : Best ts gap span (-30) q)
    (hT : G A.t_law_refuses = some (.tab "_law_refuses.<locals>.<lambda>")) (fin : ∀ G', Upd a (m + 3) G G' → Q (.bl true) G') :
    rdEq (.int span) (.int 100) G (fun z G1 => ∃ k, z = .bl k ∧ if k = true then sp__law_refuses A [.ref a, trsD ts, .int gap, .int span] G1 Q x else
      sp_heaviest A [trsD ts, .int gap, .int (span + 1)] G1 (fun z G1 => ∃ i, z = .int i ∧ if decide (q.1 ≤ i) = true then sp__law_refuses A [.ref a, trsD ts, .int gap, .int span] G1 Q x else Q (.bl false) G1) x) := by
  refine eq_pur rfl rfl ⟨_, rfl, ?_⟩
  rw [deq_ii]
  by_cases hs : span = 100
  · subst hs
    simp only [beq_self_eq_true, if_true]
    exact ⟨m, ts, rfl, w, g1, g2, s1, s2, hc, by omega, hT, fin⟩
  · have e : (span == 100) = false := by simpa using hs
    rw [e, if_neg Bool.false_ne_true]
    obtain ⟨q2, B2⟩ := best_ex30 (span := span + 1) w g1
    refine heavy_of w g1 g2 (by omega) (by omega) B2 fun G1 e1 => ?_
    have hle := best_span w B B2 (by omega)
    have e3 : decide (q.1 ≤ q2.1) = true := decide_eq_true hle
    refine ⟨_, rfl, ?_⟩
    rw [e3, if_pos rfl]
    have u : Upd a m G G1 := (Upd.refl hc).ext e1
    exact ⟨m, ts, rfl, w, g1, g2, s1, s2, u.2, by omega, e1 _ _ hT, fun G2 u2 => fin G2 (u.trans u2)⟩
theorem stF {A : Ad} {a : Addr} {m : Nat} {G : GH} {Q : DK} {x : XD} {far gap span : Int} {ts : Trucks} {q : Int × Convoy} {c : Convoy} {w' : D} {o2 o12 : Option D} (hc : Dc G a m) (hm : m ≤ 200000) (w : WTs ts) (g1 : 1 ≤ gap) (g2 : gap ≤ 20) (s1 : 0 ≤ span) (s2 : span ≤ 100) (B : Best ts gap span (-30) q)
    (hT : G A.t_law_refuses = some (.tab "_law_refuses.<locals>.<lambda>")) (fin : ∀ G', Upd a (m + 10) G G' → Q (.bl true) G') :
    tl__law_right_8 A (LE Q x) [some (.ref a), some (.int far), o2, some (trsD ts), some (.int gap), some (.int span), some (.int q.1), some (frsD q.2), some (frsD c), none, none, some w', o12, none, none, none] G := by
  have hne : A.t_law_refuses ≠ a := fun z => by
    obtain ⟨l, g, _⟩ := hc
    rw [← z, hT] at g
    cases g
  have b1 := best_room w g1 s1 B
  have b0 := B.nonneg
  obtain ⟨V, hV⟩ : ∃ V : Int → Int × Convoy, ∀ g : Int, 1 ≤ g → Best ts g span (-30) (V g) := by
    have : ∀ g : Int, ∃ q, 1 ≤ g → Best ts g span (-30) q := fun g => by
      by_cases h : 1 ≤ g
      · obtain ⟨q, hq⟩ := best_ex30 (span := span) w h
        exact ⟨q, fun _ => hq⟩
      · exact ⟨(0, []), fun z => absurd z h⟩
    exact Classical.axiomOfChoice this
  unfold tl__law_right_8
  simp only [dRet, dRetN, dSeq, dAsg, dDrop, dIfS, dNext, dBreak, dCont, dPar, dSetL, dSetD, dFor, dVar, dC, dOp, dAndV, dOrV, dNotV, dAnd, dOr, dNot, dIf, dTest, dChain, dNil, dCons, dTup, dLst, dLstM, dStar, dNeg, dCB, dCall, dCallK, dMthT, dMth0, dLc, dYes, dISeq, dIStr, dIEnum, dIZip, dIRng1, dIRng2, dSl, dPart, dNoPart, dRaise, dDisp1, dNewD, dRevL, dRevT, dSortSet, dSortSetL, dIRng3, dGet2, dIKeys, dNewT, dSetT, dLstRg, dPar3, dLamA, dLamB, gdName, gdTup, gdCons, gdNil, dstart, dwipe, dAug, rdInt, rdSub, rdLt, rdLe, rdGt, rdGe, rdFdiv, rdMod, rdPow, at0, at1, at2, i30, i31, i32, set0, set1, set2, MO.lst.injEq, gup_same, gup_gup, ad_ii, ad_ss, ad_tt, ad_ll, mu_ii, mu_li, mu_ti, ix_t, ix_l, ix_s, ix_r, ix_w, ln_t, ln_l, ln_s, ln_w, ln_r, sr_t, sr_l, sr_s, sr_r, sl_t, sl_l, sl_s, sl_r, sl_w, tu_t, tu_l, tu_r, li_t, li_l, li_r, lm_t, lm_l, mx2, mn2, ab1, in1, is2, rdIsB, rdNotB, rdIsN, rdNotN, TD.isNon, List.map_cons, List.map_nil, List.length_cons, List.length_nil, List.replicate_succ, List.replicate_zero, List.cons_append, List.nil_append, List.append_nil, Nat.zero_add, Nat.reduceAdd, Nat.reduceSub, Nat.sub_self, Nat.add_sub_cancel, List.getElem?_cons_zero, List.getElem?_cons_succ, List.getElem?_nil, List.set_cons_zero, List.set_cons_succ, List.set_nil, Option.some.injEq, D.int.injEq, D.bl.injEq, D.str.injEq, D.ref.injEq, D.ty.injEq, D.tup.injEq, D.lst.injEq, List.cons.injEq, and_true, true_and, ex_two, ex_two', exists_eq_left', exists_eq_left, exists_and_left, exists_and_right, exists_const, exists_eq_right, exists_eq_right', Bool.not_true, Bool.not_false, if_true, if_false, Bool.false_eq_true, reduceCtorEq, false_and, and_false, decide_true, decide_false]
  repeat refine and_sz (by omega) ?_
  refine pick_of hc (by omega) (by show 0 < 4; decide) (by show 4 < 1000000; decide) fun z hz G1 u1 => ?_
  obtain ⟨d, rfl, d1, d2⟩ : ∃ d : Int, z = .int d ∧ -20 ≤ d ∧ d ≤ 5 := by
    simp only [List.mem_cons, List.not_mem_nil, or_false] at hz
    rcases hz with rfl | rfl | rfl | rfl <;> exact ⟨_, rfl, by omega, by omega⟩
  try simp only [dRet, dRetN, dSeq, dAsg, dDrop, dIfS, dNext, dBreak, dCont, dPar, dSetL, dSetD, dFor, dVar, dC, dOp, dAndV, dOrV, dNotV, dAnd, dOr, dNot, dIf, dTest, dChain, dNil, dCons, dTup, dLst, dLstM, dStar, dNeg, dCB, dCall, dCallK, dMthT, dMth0, dLc, dYes, dISeq, dIStr, dIEnum, dIZip, dIRng1, dIRng2, dSl, dPart, dNoPart, dRaise, dDisp1, dNewD, dRevL, dRevT, dSortSet, dSortSetL, dIRng3, dGet2, dIKeys, dNewT, dSetT, dLstRg, dPar3, dLamA, dLamB, gdName, gdTup, gdCons, gdNil, dstart, dwipe, dAug, rdInt, rdSub, rdLt, rdLe, rdGt, rdGe, rdFdiv, rdMod, rdPow, at0, at1, at2, i30, i31, i32, set0, set1, set2, MO.lst.injEq, gup_same, gup_gup, ad_ii, ad_ss, ad_tt, ad_ll, mu_ii, mu_li, mu_ti, ix_t, ix_l, ix_s, ix_r, ix_w, ln_t, ln_l, ln_s, ln_w, ln_r, sr_t, sr_l, sr_s, sr_r, sl_t, sl_l, sl_s, sl_r, sl_w, tu_t, tu_l, tu_r, li_t, li_l, li_r, lm_t, lm_l, mx2, mn2, ab1, in1, is2, rdIsB, rdNotB, rdIsN, rdNotN, TD.isNon, List.map_cons, List.map_nil, List.length_cons, List.length_nil, List.replicate_succ, List.replicate_zero, List.cons_append, List.nil_append, List.append_nil, Nat.zero_add, Nat.reduceAdd, Nat.reduceSub, Nat.sub_self, Nat.add_sub_cancel, List.getElem?_cons_zero, List.getElem?_cons_succ, List.getElem?_nil, List.set_cons_zero, List.set_cons_succ, List.set_nil, Option.some.injEq, D.int.injEq, D.bl.injEq, D.str.injEq, D.ref.injEq, D.ty.injEq, D.tup.injEq, D.lst.injEq, List.cons.injEq, and_true, true_and, ex_two, ex_two', exists_eq_left', exists_eq_left, exists_and_left, exists_and_right, exists_const, exists_eq_right, exists_eq_right', Bool.not_true, Bool.not_false, if_true, if_false, Bool.false_eq_true, reduceCtorEq, false_and, and_false, decide_true, decide_false]
  obtain ⟨limit, elim⟩ : ∃ limit : Int, limit = (if q.1 + d > 1 then q.1 + d else 1) := ⟨_, rfl⟩
  rw [← elim]
  have l12 : 1 ≤ limit ∧ limit ≤ 10000 := by rw [elim]; split <;> omega
  obtain ⟨l1, l2⟩ := l12
  obtain ⟨k, hk1, hk2, thr⟩ := threshold (V := fun g => (V g).1) (limit := limit) (fun g g' h1 h2 => best_gap (hV g h1) (hV g' (by omega)) h2) 20
  refine ⟨⟨by omega, by omega, by omega, by omega⟩, sz _ (by decide), ?_⟩
  have en : ((21 : Int) - 1).toNat = 20 := by decide
  rw [en]
  let pb : D → Bool := fun d => match d with | .int g => decide ((V g).1 ≤ limit) | _ => false
  refine dComp_inv (fun i acc G' => acc = ((rngD 1 20).take i).filter pb ∧ Ext G1 G') 0 ⟨rfl, Ext.refl G1⟩ (fun _ _ _ _ _ _ => trivial) (fun i dd acc G2 hi hI K1 hK => ?_) (fun acc G2 hI => ?_)
  · obtain ⟨rfl, e2⟩ := hI
    have hi0 := hi
    obtain ⟨hi1, rfl⟩ := rngD_get hi
    rw [Nat.zero_add] at *
    simp only [dRet, dRetN, dSeq, dAsg, dDrop, dIfS, dNext, dBreak, dCont, dPar, dSetL, dSetD, dFor, dVar, dC, dOp, dAndV, dOrV, dNotV, dAnd, dOr, dNot, dIf, dTest, dChain, dNil, dCons, dTup, dLst, dLstM, dStar, dNeg, dCB, dCall, dCallK, dMthT, dMth0, dLc, dYes, dISeq, dIStr, dIEnum, dIZip, dIRng1, dIRng2, dSl, dPart, dNoPart, dRaise, dDisp1, dNewD, dRevL, dRevT, dSortSet, dSortSetL, dIRng3, dGet2, dIKeys, dNewT, dSetT, dLstRg, dPar3, dLamA, dLamB, gdName, gdTup, gdCons, gdNil, dstart, dwipe, dAug, rdInt, rdSub, rdLt, rdLe, rdGt, rdGe, rdFdiv, rdMod, rdPow, at0, at1, at2, i30, i31, i32, set0, set1, set2, MO.lst.injEq, gup_same, gup_gup, ad_ii, ad_ss, ad_tt, ad_ll, mu_ii, mu_li, mu_ti, ix_t, ix_l, ix_s, ix_r, ix_w, ln_t, ln_l, ln_s, ln_w, ln_r, sr_t, sr_l, sr_s, sr_r, sl_t, sl_l, sl_s, sl_r, sl_w, tu_t, tu_l, tu_r, li_t, li_l, li_r, lm_t, lm_l, mx2, mn2, ab1, in1, is2, rdIsB, rdNotB, rdIsN, rdNotN, TD.isNon, List.map_cons, List.map_nil, List.length_cons, List.length_nil, List.replicate_succ, List.replicate_zero, List.cons_append, List.nil_append, List.append_nil, Nat.zero_add, Nat.reduceAdd, Nat.reduceSub, Nat.sub_self, Nat.add_sub_cancel, List.getElem?_cons_zero, List.getElem?_cons_succ, List.getElem?_nil, List.set_cons_zero, List.set_cons_succ, List.set_nil, Option.some.injEq, D.int.injEq, D.bl.injEq, D.str.injEq, D.ref.injEq, D.ty.injEq, D.tup.injEq, D.lst.injEq, List.cons.injEq, and_true, true_and, ex_two, ex_two', exists_eq_left', exists_eq_left, exists_and_left, exists_and_right, exists_const, exists_eq_right, exists_eq_right', Bool.not_true, Bool.not_false, if_true, if_false, Bool.false_eq_true, reduceCtorEq, false_and, and_false, decide_true, decide_false]
    refine ⟨ts, rfl, w, by omega, by omega, s1, by omega, fun q' G3 B' e3 => ?_⟩
    have eq' := B'.uniq (hV (1 + (i : Int)) (by omega))
    try simp only [dRet, dRetN, dSeq, dAsg, dDrop, dIfS, dNext, dBreak, dCont, dPar, dSetL, dSetD, dFor, dVar, dC, dOp, dAndV, dOrV, dNotV, dAnd, dOr, dNot, dIf, dTest, dChain, dNil, dCons, dTup, dLst, dLstM, dStar, dNeg, dCB, dCall, dCallK, dMthT, dMth0, dLc, dYes, dISeq, dIStr, dIEnum, dIZip, dIRng1, dIRng2, dSl, dPart, dNoPart, dRaise, dDisp1, dNewD, dRevL, dRevT, dSortSet, dSortSetL, dIRng3, dGet2, dIKeys, dNewT, dSetT, dLstRg, dPar3, dLamA, dLamB, gdName, gdTup, gdCons, gdNil, dstart, dwipe, dAug, rdInt, rdSub, rdLt, rdLe, rdGt, rdGe, rdFdiv, rdMod, rdPow, at0, at1, at2, i30, i31, i32, set0, set1, set2, MO.lst.injEq, gup_same, gup_gup, ad_ii, ad_ss, ad_tt, ad_ll, mu_ii, mu_li, mu_ti, ix_t, ix_l, ix_s, ix_r, ix_w, ln_t, ln_l, ln_s, ln_w, ln_r, sr_t, sr_l, sr_s, sr_r, sl_t, sl_l, sl_s, sl_r, sl_w, tu_t, tu_l, tu_r, li_t, li_l, li_r, lm_t, lm_l, mx2, mn2, ab1, in1, is2, rdIsB, rdNotB, rdIsN, rdNotN, TD.isNon, List.map_cons, List.map_nil, List.length_cons, List.length_nil, List.replicate_succ, List.replicate_zero, List.cons_append, List.nil_append, List.append_nil, Nat.zero_add, Nat.reduceAdd, Nat.reduceSub, Nat.sub_self, Nat.add_sub_cancel, List.getElem?_cons_zero, List.getElem?_cons_succ, List.getElem?_nil, List.set_cons_zero, List.set_cons_succ, List.set_nil, Option.some.injEq, D.int.injEq, D.bl.injEq, D.str.injEq, D.ref.injEq, D.ty.injEq, D.tup.injEq, D.lst.injEq, List.cons.injEq, and_true, true_and, ex_two, ex_two', exists_eq_left', exists_eq_left, exists_and_left, exists_and_right, exists_const, exists_eq_right, exists_eq_right', Bool.not_true, Bool.not_false, if_true, if_false, Bool.false_eq_true, reduceCtorEq, false_and, and_false, decide_true, decide_false]
    have epb : pb (.int (1 + (i : Int))) = decide ((V (1 + (i : Int))).1 ≤ limit) := rfl
    by_cases hc2 : q'.1 ≤ limit
    · simp only [hc2, decide_true, if_true]
      refine hK _ _ ⟨?_, e2.trans e3⟩
      rw [List.take_succ, hi0, List.filter_append]
      congr 1
      have : pb (.int (1 + (i : Int))) = true := by rw [epb]; exact decide_eq_true (by omega)
      show _ = [D.int (1 + (i : Int))].filter pb
      rw [List.filter_cons_of_pos this]
      rfl
    · simp only [hc2, decide_false, Bool.false_eq_true, if_false]
      refine hK _ _ ⟨?_, e2.trans e3⟩
      rw [List.take_succ, hi0, List.filter_append]
      have : ¬ pb (.int (1 + (i : Int))) = true := by rw [epb, decide_eq_true_eq]; omega
      show _ = _ ++ [D.int (1 + (i : Int))].filter pb
      rw [List.filter_cons_of_neg this]
      simp
  · obtain ⟨rfl, e2⟩ := hI
    have eL : ((rngD 1 20).take (0 + (rngD 1 20).length)).filter pb = ((List.range (21 - k)).map fun (i : Nat) => ((k : Int) + (i : Int))).map D.int := by
      rw [Nat.zero_add, List.take_length, rngD_ints, List.filter_map]
      rw [← good_list ⟨k, by omega⟩ hk1]
      congr 1
      refine List.filter_congr fun g hg => ?_
      obtain ⟨i, hi, rfl⟩ := List.mem_map.mp hg
      have hi2 := List.mem_range.mp hi
      show decide ((V (1 + (i : Int))).1 ≤ limit) = decide ((k : Int) ≤ 1 + (i : Int))
      have := thr (1 + (i : Int)) (by omega) (by omega)
      by_cases h : (k : Int) ≤ 1 + (i : Int)
      · rw [decide_eq_true h, decide_eq_true (this.mpr h)]
      · rw [decide_eq_false h, decide_eq_false (fun z => h (this.mp z))]
    rw [eL]
    have pL : Pur (.lst (((List.range (21 - k)).map fun (i : Nat) => ((k : Int) + (i : Int))).map D.int)) := pur_lstI fun y hy => by
      obtain ⟨i, _, rfl⟩ := List.mem_map.mp hy
      rfl
    try simp only [dRet, dRetN, dSeq, dAsg, dDrop, dIfS, dNext, dBreak, dCont, dPar, dSetL, dSetD, dFor, dVar, dC, dOp, dAndV, dOrV, dNotV, dAnd, dOr, dNot, dIf, dTest, dChain, dNil, dCons, dTup, dLst, dLstM, dStar, dNeg, dCB, dCall, dCallK, dMthT, dMth0, dLc, dYes, dISeq, dIStr, dIEnum, dIZip, dIRng1, dIRng2, dSl, dPart, dNoPart, dRaise, dDisp1, dNewD, dRevL, dRevT, dSortSet, dSortSetL, dIRng3, dGet2, dIKeys, dNewT, dSetT, dLstRg, dPar3, dLamA, dLamB, gdName, gdTup, gdCons, gdNil, dstart, dwipe, dAug, rdInt, rdSub, rdLt, rdLe, rdGt, rdGe, rdFdiv, rdMod, rdPow, at0, at1, at2, i30, i31, i32, set0, set1, set2, MO.lst.injEq, gup_same, gup_gup, ad_ii, ad_ss, ad_tt, ad_ll, mu_ii, mu_li, mu_ti, ix_t, ix_l, ix_s, ix_r, ix_w, ln_t, ln_l, ln_s, ln_w, ln_r, sr_t, sr_l, sr_s, sr_r, sl_t, sl_l, sl_s, sl_r, sl_w, tu_t, tu_l, tu_r, li_t, li_l, li_r, lm_t, lm_l, mx2, mn2, ab1, in1, is2, rdIsB, rdNotB, rdIsN, rdNotN, TD.isNon, List.map_cons, List.map_nil, List.length_cons, List.length_nil, List.replicate_succ, List.replicate_zero, List.cons_append, List.nil_append, List.append_nil, Nat.zero_add, Nat.reduceAdd, Nat.reduceSub, Nat.sub_self, Nat.add_sub_cancel, List.getElem?_cons_zero, List.getElem?_cons_succ, List.getElem?_nil, List.set_cons_zero, List.set_cons_succ, List.set_nil, Option.some.injEq, D.int.injEq, D.bl.injEq, D.str.injEq, D.ref.injEq, D.ty.injEq, D.tup.injEq, D.lst.injEq, List.cons.injEq, and_true, true_and, ex_two, ex_two', exists_eq_left', exists_eq_left, exists_and_left, exists_and_right, exists_const, exists_eq_right, exists_eq_right', Bool.not_true, Bool.not_false, if_true, if_false, Bool.false_eq_true, reduceCtorEq, false_and, and_false, decide_true, decide_false]
    refine least_of w s1 s2 l1 l2 hV hk1 hk2 thr fun y G3 e3 ey => ?_
    refine ⟨sz _ (by decide), ne_pur pL rfl ⟨_, rfl, ?_⟩⟩
    have u3 : Upd a (m + 1) G G3 := u1.ext (e2.trans e3)
    have last := fun (G3 : GH) (u3 : Upd a (m + 1) G G3) => stZ (Q := Q) (x := x) u3.2 (by omega) w g1 g2 s1 s2 B (u3.1 _ _ hne hT) fun G' u => fin G' ((u3.trans u).mono (by omega))
    have el : (21 : Int) - ((21 - k : Nat) : Int) = (k : Int) := by omega
    have el2 : ((21 : Int) - (k : Int)).toNat = 21 - k := by omega
    by_cases h20 : k ≤ 20
    · rw [if_pos h20] at ey
      subst ey
      have e9 : deq (.lst (((List.range (21 - k)).map fun (i : Nat) => ((k : Int) + (i : Int))).map D.int)) (.lst []) = false := by
        cases h : 21 - k with
        | zero => omega
        | succ n => rw [List.range_succ_eq_map]; simp [deq, deqs]
      rw [e9]
      simp only [dRet, dRetN, dSeq, dAsg, dDrop, dIfS, dNext, dBreak, dCont, dPar, dSetL, dSetD, dFor, dVar, dC, dOp, dAndV, dOrV, dNotV, dAnd, dOr, dNot, dIf, dTest, dChain, dNil, dCons, dTup, dLst, dLstM, dStar, dNeg, dCB, dCall, dCallK, dMthT, dMth0, dLc, dYes, dISeq, dIStr, dIEnum, dIZip, dIRng1, dIRng2, dSl, dPart, dNoPart, dRaise, dDisp1, dNewD, dRevL, dRevT, dSortSet, dSortSetL, dIRng3, dGet2, dIKeys, dNewT, dSetT, dLstRg, dPar3, dLamA, dLamB, gdName, gdTup, gdCons, gdNil, dstart, dwipe, dAug, rdInt, rdSub, rdLt, rdLe, rdGt, rdGe, rdFdiv, rdMod, rdPow, at0, at1, at2, i30, i31, i32, set0, set1, set2, MO.lst.injEq, gup_same, gup_gup, ad_ii, ad_ss, ad_tt, ad_ll, mu_ii, mu_li, mu_ti, ix_t, ix_l, ix_s, ix_r, ix_w, ln_t, ln_l, ln_s, ln_w, ln_r, sr_t, sr_l, sr_s, sr_r, sl_t, sl_l, sl_s, sl_r, sl_w, tu_t, tu_l, tu_r, li_t, li_l, li_r, lm_t, lm_l, mx2, mn2, ab1, in1, is2, rdIsB, rdNotB, rdIsN, rdNotN, TD.isNon, List.map_cons, List.map_nil, List.length_cons, List.length_nil, List.replicate_succ, List.replicate_zero, List.cons_append, List.nil_append, List.append_nil, Nat.zero_add, Nat.reduceAdd, Nat.reduceSub, Nat.sub_self, Nat.add_sub_cancel, List.getElem?_cons_zero, List.getElem?_cons_succ, List.getElem?_nil, List.set_cons_zero, List.set_cons_succ, List.set_nil, Option.some.injEq, D.int.injEq, D.bl.injEq, D.str.injEq, D.ref.injEq, D.ty.injEq, D.tup.injEq, D.lst.injEq, List.cons.injEq, and_true, true_and, ex_two, ex_two', exists_eq_left', exists_eq_left, exists_and_left, exists_and_right, exists_const, exists_eq_right, exists_eq_right', Bool.not_true, Bool.not_false, if_true, if_false, Bool.false_eq_true, reduceCtorEq, false_and, and_false, decide_true, decide_false]
      refine ⟨.int (k : Int), ?_, ne_same_i ?_⟩
      · refine atI_nat (j := 0) ?_
        rw [List.getElem?_map, List.getElem?_map, List.getElem?_range (by omega)]
        simp
      try simp only [dRet, dRetN, dSeq, dAsg, dDrop, dIfS, dNext, dBreak, dCont, dPar, dSetL, dSetD, dFor, dVar, dC, dOp, dAndV, dOrV, dNotV, dAnd, dOr, dNot, dIf, dTest, dChain, dNil, dCons, dTup, dLst, dLstM, dStar, dNeg, dCB, dCall, dCallK, dMthT, dMth0, dLc, dYes, dISeq, dIStr, dIEnum, dIZip, dIRng1, dIRng2, dSl, dPart, dNoPart, dRaise, dDisp1, dNewD, dRevL, dRevT, dSortSet, dSortSetL, dIRng3, dGet2, dIKeys, dNewT, dSetT, dLstRg, dPar3, dLamA, dLamB, gdName, gdTup, gdCons, gdNil, dstart, dwipe, dAug, rdInt, rdSub, rdLt, rdLe, rdGt, rdGe, rdFdiv, rdMod, rdPow, at0, at1, at2, i30, i31, i32, set0, set1, set2, MO.lst.injEq, gup_same, gup_gup, ad_ii, ad_ss, ad_tt, ad_ll, mu_ii, mu_li, mu_ti, ix_t, ix_l, ix_s, ix_r, ix_w, ln_t, ln_l, ln_s, ln_w, ln_r, sr_t, sr_l, sr_s, sr_r, sl_t, sl_l, sl_s, sl_r, sl_w, tu_t, tu_l, tu_r, li_t, li_l, li_r, lm_t, lm_l, mx2, mn2, ab1, in1, is2, rdIsB, rdNotB, rdIsN, rdNotN, TD.isNon, List.map_cons, List.map_nil, List.length_cons, List.length_nil, List.replicate_succ, List.replicate_zero, List.cons_append, List.nil_append, List.append_nil, Nat.zero_add, Nat.reduceAdd, Nat.reduceSub, Nat.sub_self, Nat.add_sub_cancel, List.getElem?_cons_zero, List.getElem?_cons_succ, List.getElem?_nil, List.set_cons_zero, List.set_cons_succ, List.set_nil, Option.some.injEq, D.int.injEq, D.bl.injEq, D.str.injEq, D.ref.injEq, D.ty.injEq, D.tup.injEq, D.lst.injEq, List.cons.injEq, and_true, true_and, ex_two, ex_two', exists_eq_left', exists_eq_left, exists_and_left, exists_and_right, exists_const, exists_eq_right, exists_eq_right', Bool.not_true, Bool.not_false, if_true, if_false, Bool.false_eq_true, reduceCtorEq, false_and, and_false, decide_true, decide_false, List.length_map, List.length_range]
      rw [el, el2]
      refine ⟨⟨by omega, by omega, by omega, by omega⟩, ?_⟩
      rw [rngD_ints]
      refine ne_pur pL pL ?_
      rw [deq_self]
      simp only [dRet, dRetN, dSeq, dAsg, dDrop, dIfS, dNext, dBreak, dCont, dPar, dSetL, dSetD, dFor, dVar, dC, dOp, dAndV, dOrV, dNotV, dAnd, dOr, dNot, dIf, dTest, dChain, dNil, dCons, dTup, dLst, dLstM, dStar, dNeg, dCB, dCall, dCallK, dMthT, dMth0, dLc, dYes, dISeq, dIStr, dIEnum, dIZip, dIRng1, dIRng2, dSl, dPart, dNoPart, dRaise, dDisp1, dNewD, dRevL, dRevT, dSortSet, dSortSetL, dIRng3, dGet2, dIKeys, dNewT, dSetT, dLstRg, dPar3, dLamA, dLamB, gdName, gdTup, gdCons, gdNil, dstart, dwipe, dAug, rdInt, rdSub, rdLt, rdLe, rdGt, rdGe, rdFdiv, rdMod, rdPow, at0, at1, at2, i30, i31, i32, set0, set1, set2, MO.lst.injEq, gup_same, gup_gup, ad_ii, ad_ss, ad_tt, ad_ll, mu_ii, mu_li, mu_ti, ix_t, ix_l, ix_s, ix_r, ix_w, ln_t, ln_l, ln_s, ln_w, ln_r, sr_t, sr_l, sr_s, sr_r, sl_t, sl_l, sl_s, sl_r, sl_w, tu_t, tu_l, tu_r, li_t, li_l, li_r, lm_t, lm_l, mx2, mn2, ab1, in1, is2, rdIsB, rdNotB, rdIsN, rdNotN, TD.isNon, List.map_cons, List.map_nil, List.length_cons, List.length_nil, List.replicate_succ, List.replicate_zero, List.cons_append, List.nil_append, List.append_nil, Nat.zero_add, Nat.reduceAdd, Nat.reduceSub, Nat.sub_self, Nat.add_sub_cancel, List.getElem?_cons_zero, List.getElem?_cons_succ, List.getElem?_nil, List.set_cons_zero, List.set_cons_succ, List.set_nil, Option.some.injEq, D.int.injEq, D.bl.injEq, D.str.injEq, D.ref.injEq, D.ty.injEq, D.tup.injEq, D.lst.injEq, List.cons.injEq, and_true, true_and, ex_two, ex_two', exists_eq_left', exists_eq_left, exists_and_left, exists_and_right, exists_const, exists_eq_right, exists_eq_right', Bool.not_true, Bool.not_false, if_true, if_false, Bool.false_eq_true, reduceCtorEq, false_and, and_false, decide_true, decide_false]
      exact last G3 u3
    · rw [if_neg h20] at ey
      subst ey
      have e21 : 21 - k = 0 := by omega
      have e9 : deq (.lst (((List.range (21 - k)).map fun (i : Nat) => ((k : Int) + (i : Int))).map D.int)) (.lst []) = true := by rw [e21]; rfl
      rw [e9]
      simp only [dRet, dRetN, dSeq, dAsg, dDrop, dIfS, dNext, dBreak, dCont, dPar, dSetL, dSetD, dFor, dVar, dC, dOp, dAndV, dOrV, dNotV, dAnd, dOr, dNot, dIf, dTest, dChain, dNil, dCons, dTup, dLst, dLstM, dStar, dNeg, dCB, dCall, dCallK, dMthT, dMth0, dLc, dYes, dISeq, dIStr, dIEnum, dIZip, dIRng1, dIRng2, dSl, dPart, dNoPart, dRaise, dDisp1, dNewD, dRevL, dRevT, dSortSet, dSortSetL, dIRng3, dGet2, dIKeys, dNewT, dSetT, dLstRg, dPar3, dLamA, dLamB, gdName, gdTup, gdCons, gdNil, dstart, dwipe, dAug, rdInt, rdSub, rdLt, rdLe, rdGt, rdGe, rdFdiv, rdMod, rdPow, at0, at1, at2, i30, i31, i32, set0, set1, set2, MO.lst.injEq, gup_same, gup_gup, ad_ii, ad_ss, ad_tt, ad_ll, mu_ii, mu_li, mu_ti, ix_t, ix_l, ix_s, ix_r, ix_w, ln_t, ln_l, ln_s, ln_w, ln_r, sr_t, sr_l, sr_s, sr_r, sl_t, sl_l, sl_s, sl_r, sl_w, tu_t, tu_l, tu_r, li_t, li_l, li_r, lm_t, lm_l, mx2, mn2, ab1, in1, is2, rdIsB, rdNotB, rdIsN, rdNotN, TD.isNon, List.map_cons, List.map_nil, List.length_cons, List.length_nil, List.replicate_succ, List.replicate_zero, List.cons_append, List.nil_append, List.append_nil, Nat.zero_add, Nat.reduceAdd, Nat.reduceSub, Nat.sub_self, Nat.add_sub_cancel, List.getElem?_cons_zero, List.getElem?_cons_succ, List.getElem?_nil, List.set_cons_zero, List.set_cons_succ, List.set_nil, Option.some.injEq, D.int.injEq, D.bl.injEq, D.str.injEq, D.ref.injEq, D.ty.injEq, D.tup.injEq, D.lst.injEq, List.cons.injEq, and_true, true_and, ex_two, ex_two', exists_eq_left', exists_eq_left, exists_and_left, exists_and_right, exists_const, exists_eq_right, exists_eq_right', Bool.not_true, Bool.not_false, if_true, if_false, Bool.false_eq_true, reduceCtorEq, false_and, and_false, decide_true, decide_false]
      refine ne_pur rfl rfl ?_
      have e8 : deq .non .non = true := by rw [deq]
      rw [e8]
      try simp only [dRet, dRetN, dSeq, dAsg, dDrop, dIfS, dNext, dBreak, dCont, dPar, dSetL, dSetD, dFor, dVar, dC, dOp, dAndV, dOrV, dNotV, dAnd, dOr, dNot, dIf, dTest, dChain, dNil, dCons, dTup, dLst, dLstM, dStar, dNeg, dCB, dCall, dCallK, dMthT, dMth0, dLc, dYes, dISeq, dIStr, dIEnum, dIZip, dIRng1, dIRng2, dSl, dPart, dNoPart, dRaise, dDisp1, dNewD, dRevL, dRevT, dSortSet, dSortSetL, dIRng3, dGet2, dIKeys, dNewT, dSetT, dLstRg, dPar3, dLamA, dLamB, gdName, gdTup, gdCons, gdNil, dstart, dwipe, dAug, rdInt, rdSub, rdLt, rdLe, rdGt, rdGe, rdFdiv, rdMod, rdPow, at0, at1, at2, i30, i31, i32, set0, set1, set2, MO.lst.injEq, gup_same, gup_gup, ad_ii, ad_ss, ad_tt, ad_ll, mu_ii, mu_li, mu_ti, ix_t, ix_l, ix_s, ix_r, ix_w, ln_t, ln_l, ln_s, ln_w, ln_r, sr_t, sr_l, sr_s, sr_r, sl_t, sl_l, sl_s, sl_r, sl_w, tu_t, tu_l, tu_r, li_t, li_l, li_r, lm_t, lm_l, mx2, mn2, ab1, in1, is2, rdIsB, rdNotB, rdIsN, rdNotN, TD.isNon, List.map_cons, List.map_nil, List.length_cons, List.length_nil, List.replicate_succ, List.replicate_zero, List.cons_append, List.nil_append, List.append_nil, Nat.zero_add, Nat.reduceAdd, Nat.reduceSub, Nat.sub_self, Nat.add_sub_cancel, List.getElem?_cons_zero, List.getElem?_cons_succ, List.getElem?_nil, List.set_cons_zero, List.set_cons_succ, List.set_nil, Option.some.injEq, D.int.injEq, D.bl.injEq, D.str.injEq, D.ref.injEq, D.ty.injEq, D.tup.injEq, D.lst.injEq, List.cons.injEq, and_true, true_and, ex_two, ex_two', exists_eq_left', exists_eq_left, exists_and_left, exists_and_right, exists_const, exists_eq_right, exists_eq_right', Bool.not_true, Bool.not_false, if_true, if_false, Bool.false_eq_true, reduceCtorEq, false_and, and_false, decide_true, decide_false, List.length_map, List.length_range]
      rw [el, el2]
      refine ⟨⟨by omega, by omega, by omega, by omega⟩, ?_⟩
      rw [rngD_ints]
      refine ne_pur pL pL ?_
      rw [deq_self]
      simp only [dRet, dRetN, dSeq, dAsg, dDrop, dIfS, dNext, dBreak, dCont, dPar, dSetL, dSetD, dFor, dVar, dC, dOp, dAndV, dOrV, dNotV, dAnd, dOr, dNot, dIf, dTest, dChain, dNil, dCons, dTup, dLst, dLstM, dStar, dNeg, dCB, dCall, dCallK, dMthT, dMth0, dLc, dYes, dISeq, dIStr, dIEnum, dIZip, dIRng1, dIRng2, dSl, dPart, dNoPart, dRaise, dDisp1, dNewD, dRevL, dRevT, dSortSet, dSortSetL, dIRng3, dGet2, dIKeys, dNewT, dSetT, dLstRg, dPar3, dLamA, dLamB, gdName, gdTup, gdCons, gdNil, dstart, dwipe, dAug, rdInt, rdSub, rdLt, rdLe, rdGt, rdGe, rdFdiv, rdMod, rdPow, at0, at1, at2, i30, i31, i32, set0, set1, set2, MO.lst.injEq, gup_same, gup_gup, ad_ii, ad_ss, ad_tt, ad_ll, mu_ii, mu_li, mu_ti, ix_t, ix_l, ix_s, ix_r, ix_w, ln_t, ln_l, ln_s, ln_w, ln_r, sr_t, sr_l, sr_s, sr_r, sl_t, sl_l, sl_s, sl_r, sl_w, tu_t, tu_l, tu_r, li_t, li_l, li_r, lm_t, lm_l, mx2, mn2, ab1, in1, is2, rdIsB, rdNotB, rdIsN, rdNotN, TD.isNon, List.map_cons, List.map_nil, List.length_cons, List.length_nil, List.replicate_succ, List.replicate_zero, List.cons_append, List.nil_append, List.append_nil, Nat.zero_add, Nat.reduceAdd, Nat.reduceSub, Nat.sub_self, Nat.add_sub_cancel, List.getElem?_cons_zero, List.getElem?_cons_succ, List.getElem?_nil, List.set_cons_zero, List.set_cons_succ, List.set_nil, Option.some.injEq, D.int.injEq, D.bl.injEq, D.str.injEq, D.ref.injEq, D.ty.injEq, D.tup.injEq, D.lst.injEq, List.cons.injEq, and_true, true_and, ex_two, ex_two', exists_eq_left', exists_eq_left, exists_and_left, exists_and_right, exists_const, exists_eq_right, exists_eq_right', Bool.not_true, Bool.not_false, if_true, if_false, Bool.false_eq_true, reduceCtorEq, false_and, and_false, decide_true, decide_false]
      exact last G3 u3
end K06
namespace K06
open PySem L2 TD
theorem read__law_right {A : Ad} {zs : List D} {G : GH} {Q : DK} {x : XD} (h : sp__law_right A zs G Q x) : ds__law_right A { nx := fun _ G' => Q .non G', rt := Q, xx := fun _ => x } (dstart N__law_right zs) G := by
  unfold sp__law_right at h
  split at h
  · rename_i a
    obtain ⟨m, hc, hm, hT, q⟩ := h
    have hne : A.t_law_refuses ≠ a := fun z => by
      obtain ⟨l, g, _⟩ := hc
      rw [← z, hT] at g
      cases g
    refine stA hc (by omega) fun far ts gap span G1 w h3 g1 g2 s1 s2 u1 => ?_
    refine stB u1.2 (by omega) w g1 g2 s1 s2 fun q1 c G2 B hcv hl hb u2 => ?_
    refine stC u2.2 w h3 g1 g2 s1 s2 B fun G3 u3 => ?_
    refine stD u3.2 w g1 g2 s1 s2 B hcv hl hb fun w' G4 u4 => ?_
    refine stE u4.2 (by omega) w g1 g2 s1 s2 B hl fun o2 o12 G5 u5 => ?_
    have u6 := (((u1.trans u2).trans u3).trans u4).trans u5
    exact stF u5.2 (by omega) w g1 g2 s1 s2 B (u6.1 _ _ hne hT) fun G7 u7 => q G7 ((u6.trans u7).mono (by omega))
  · exact h.elim
def sp_law (A : Ad) : SpD := fun zs G Q _ => match zs with
  | [.scr ns] => ns.length ≤ 63 ∧ G A.t_law_refuses = some (.tab "_law_refuses.<locals>.<lambda>") ∧ ∀ G', Q (.bl true) G'
  | _ => False
theorem len_law {A : Ad} {zs : List D} {G : GH} {Q : DK} {x : XD} (h : sp_law A zs G Q x) : zs.length = 1 := by
  unfold sp_law at h
  split at h <;> first | rfl | exact h.elim
def ds_law (A : Ad) : DS := dSeq (dFor (dIRng1 (dCons (dCB rdMax2 (dCons (dC (.int 1)) (dCons (dCB rdMin2 (dCons (dC (.int 4)) (dCons (dCB rdLen (dCons (dVar 0) dNil)) dNil))) dNil))) dNil)) (gdName 1) (dIfS (dNot (dTest (dCall (sp__law_right A) (dCons (dCall (sp__law_dice A) (dCons (dVar 0) (dCons (dVar 1) dNil))) dNil)))) (dRet (dC (.bl false))) dNext)) (dRet (dOp rdEq (dCall (sp_heaviest A) (dCons (dTup (dCons (dTup (dCons (dC (.int 4)) (dCons (dTup (dCons (dTup (dCons (dC (.int 0)) (dCons (dC (.int 3)) dNil))) (dCons (dTup (dCons (dC (.int 4)) (dCons (dC (.int 5)) dNil))) dNil))) dNil))) dNil)) (dCons (dC (.int 2)) (dCons (dC (.int 10)) dNil)))) (dC (.int 16))))
def N_law : List PySem.Str := ["script", "spot"]
theorem read_law {A : Ad} {zs : List D} {G : GH} {Q : DK} {x : XD} (h : sp_law A zs G Q x) : ds_law A { nx := fun _ G' => Q .non G', rt := Q, xx := fun _ => x } (dstart N_law zs) G := by
  unfold sp_law at h
  split at h
  · rename_i ns
    obtain ⟨hl, hT, q⟩ := h
    unfold N_law ds_law
    simp only [dRet, dRetN, dSeq, dAsg, dDrop, dIfS, dNext, dBreak, dCont, dPar, dSetL, dSetD, dFor, dVar, dC, dOp, dAndV, dOrV, dNotV, dAnd, dOr, dNot, dIf, dTest, dChain, dNil, dCons, dTup, dLst, dLstM, dStar, dNeg, dCB, dCall, dCallK, dMthT, dMth0, dLc, dYes, dISeq, dIStr, dIEnum, dIZip, dIRng1, dIRng2, dSl, dPart, dNoPart, dRaise, dDisp1, dNewD, dRevL, dRevT, dSortSet, dSortSetL, dIRng3, dGet2, dIKeys, dNewT, dSetT, dLstRg, dPar3, dLamA, dLamB, gdName, gdTup, gdCons, gdNil, dstart, dwipe, dAug, rdInt, rdSub, rdLt, rdLe, rdGt, rdGe, rdFdiv, rdMod, rdPow, at0, at1, at2, i30, i31, i32, set0, set1, set2, MO.lst.injEq, gup_same, gup_gup, ad_ii, ad_ss, ad_tt, ad_ll, mu_ii, mu_li, mu_ti, ix_t, ix_l, ix_s, ix_r, ix_w, ln_t, ln_l, ln_s, ln_w, ln_r, sr_t, sr_l, sr_s, sr_r, sl_t, sl_l, sl_s, sl_r, sl_w, tu_t, tu_l, tu_r, li_t, li_l, li_r, lm_t, lm_l, mx2, mn2, ab1, in1, is2, rdIsB, rdNotB, rdIsN, rdNotN, TD.isNon, List.map_cons, List.map_nil, List.length_cons, List.length_nil, List.replicate_succ, List.replicate_zero, List.cons_append, List.nil_append, List.append_nil, Nat.zero_add, Nat.reduceAdd, Nat.reduceSub, Nat.sub_self, Nat.add_sub_cancel, List.getElem?_cons_zero, List.getElem?_cons_succ, List.getElem?_nil, List.set_cons_zero, List.set_cons_succ, List.set_nil, Option.some.injEq, D.int.injEq, D.bl.injEq, D.str.injEq, D.ref.injEq, D.ty.injEq, D.tup.injEq, D.lst.injEq, List.cons.injEq, and_true, true_and, ex_two, ex_two', exists_eq_left', exists_eq_left, exists_and_left, exists_and_right, exists_const, exists_eq_right, exists_eq_right', Bool.not_true, Bool.not_false, if_true, if_false, Bool.false_eq_true, reduceCtorEq, false_and, and_false, decide_true, decide_false]
    have hn : ∃ n : Nat, n ≤ 4 ∧ (if (if (ns.length : Int) < 4 then (ns.length : Int) else 4) > 1 then (if (ns.length : Int) < 4 then (ns.length : Int) else 4) else 1) = (n : Int) := by
      by_cases c1 : (ns.length : Int) < 4
      · rw [if_pos c1]
        by_cases c2 : (ns.length : Int) > 1
        · rw [if_pos c2]; exact ⟨ns.length, by omega, rfl⟩
        · rw [if_neg c2]; exact ⟨1, by omega, rfl⟩
      · rw [if_neg c1]; exact ⟨4, by omega, rfl⟩
    obtain ⟨n, hn4, en⟩ := hn
    rw [en]
    refine ⟨by omega, sz _ (by omega), ?_⟩
    refine dLoop_inv (fun i ρ G' => ∃ o1, ρ = [some (.scr ns), o1] ∧ G' A.t_law_refuses = some (.tab "_law_refuses.<locals>.<lambda>")) 0 ⟨none, rfl, hT⟩ (fun _ _ _ _ _ _ => trivial) (fun i dd ρ G1 hi hI K1 hK => ?_) (fun ρ G1 hI => ?_)
    · obtain ⟨o1, rfl, hT1⟩ := hI
      obtain ⟨hi1, rfl⟩ := rngD_get hi
      simp only [dRet, dRetN, dSeq, dAsg, dDrop, dIfS, dNext, dBreak, dCont, dPar, dSetL, dSetD, dFor, dVar, dC, dOp, dAndV, dOrV, dNotV, dAnd, dOr, dNot, dIf, dTest, dChain, dNil, dCons, dTup, dLst, dLstM, dStar, dNeg, dCB, dCall, dCallK, dMthT, dMth0, dLc, dYes, dISeq, dIStr, dIEnum, dIZip, dIRng1, dIRng2, dSl, dPart, dNoPart, dRaise, dDisp1, dNewD, dRevL, dRevT, dSortSet, dSortSetL, dIRng3, dGet2, dIKeys, dNewT, dSetT, dLstRg, dPar3, dLamA, dLamB, gdName, gdTup, gdCons, gdNil, dstart, dwipe, dAug, rdInt, rdSub, rdLt, rdLe, rdGt, rdGe, rdFdiv, rdMod, rdPow, at0, at1, at2, i30, i31, i32, set0, set1, set2, MO.lst.injEq, gup_same, gup_gup, ad_ii, ad_ss, ad_tt, ad_ll, mu_ii, mu_li, mu_ti, ix_t, ix_l, ix_s, ix_r, ix_w, ln_t, ln_l, ln_s, ln_w, ln_r, sr_t, sr_l, sr_s, sr_r, sl_t, sl_l, sl_s, sl_r, sl_w, tu_t, tu_l, tu_r, li_t, li_l, li_r, lm_t, lm_l, mx2, mn2, ab1, in1, is2, rdIsB, rdNotB, rdIsN, rdNotN, TD.isNon, List.map_cons, List.map_nil, List.length_cons, List.length_nil, List.replicate_succ, List.replicate_zero, List.cons_append, List.nil_append, List.append_nil, Nat.zero_add, Nat.reduceAdd, Nat.reduceSub, Nat.sub_self, Nat.add_sub_cancel, List.getElem?_cons_zero, List.getElem?_cons_succ, List.getElem?_nil, List.set_cons_zero, List.set_cons_succ, List.set_nil, Option.some.injEq, D.int.injEq, D.bl.injEq, D.str.injEq, D.ref.injEq, D.ty.injEq, D.tup.injEq, D.lst.injEq, List.cons.injEq, and_true, true_and, ex_two, ex_two', exists_eq_left', exists_eq_left, exists_and_left, exists_and_right, exists_const, exists_eq_right, exists_eq_right', Bool.not_true, Bool.not_false, if_true, if_false, Bool.false_eq_true, reduceCtorEq, false_and, and_false, decide_true, decide_false]
      refine ⟨hl, by omega, by omega, fun p l hp hd => ?_⟩
      have hne : A.t_law_refuses ≠ p := fun z => by rw [← z, hT1] at hp; cases hp
      have hT2 : gup G1 p (.lst l) A.t_law_refuses = some (.tab "_law_refuses.<locals>.<lambda>") := by rw [gup_ne hne]; exact hT1
      refine ⟨0, ⟨l, gup_same, hd⟩, by omega, hT2, fun G2 u => ?_⟩
      refine ⟨_, rfl, ?_⟩
      simp only [dRet, dRetN, dSeq, dAsg, dDrop, dIfS, dNext, dBreak, dCont, dPar, dSetL, dSetD, dFor, dVar, dC, dOp, dAndV, dOrV, dNotV, dAnd, dOr, dNot, dIf, dTest, dChain, dNil, dCons, dTup, dLst, dLstM, dStar, dNeg, dCB, dCall, dCallK, dMthT, dMth0, dLc, dYes, dISeq, dIStr, dIEnum, dIZip, dIRng1, dIRng2, dSl, dPart, dNoPart, dRaise, dDisp1, dNewD, dRevL, dRevT, dSortSet, dSortSetL, dIRng3, dGet2, dIKeys, dNewT, dSetT, dLstRg, dPar3, dLamA, dLamB, gdName, gdTup, gdCons, gdNil, dstart, dwipe, dAug, rdInt, rdSub, rdLt, rdLe, rdGt, rdGe, rdFdiv, rdMod, rdPow, at0, at1, at2, i30, i31, i32, set0, set1, set2, MO.lst.injEq, gup_same, gup_gup, ad_ii, ad_ss, ad_tt, ad_ll, mu_ii, mu_li, mu_ti, ix_t, ix_l, ix_s, ix_r, ix_w, ln_t, ln_l, ln_s, ln_w, ln_r, sr_t, sr_l, sr_s, sr_r, sl_t, sl_l, sl_s, sl_r, sl_w, tu_t, tu_l, tu_r, li_t, li_l, li_r, lm_t, lm_l, mx2, mn2, ab1, in1, is2, rdIsB, rdNotB, rdIsN, rdNotN, TD.isNon, List.map_cons, List.map_nil, List.length_cons, List.length_nil, List.replicate_succ, List.replicate_zero, List.cons_append, List.nil_append, List.append_nil, Nat.zero_add, Nat.reduceAdd, Nat.reduceSub, Nat.sub_self, Nat.add_sub_cancel, List.getElem?_cons_zero, List.getElem?_cons_succ, List.getElem?_nil, List.set_cons_zero, List.set_cons_succ, List.set_nil, Option.some.injEq, D.int.injEq, D.bl.injEq, D.str.injEq, D.ref.injEq, D.ty.injEq, D.tup.injEq, D.lst.injEq, List.cons.injEq, and_true, true_and, ex_two, ex_two', exists_eq_left', exists_eq_left, exists_and_left, exists_and_right, exists_const, exists_eq_right, exists_eq_right', Bool.not_true, Bool.not_false, if_true, if_false, Bool.false_eq_true, reduceCtorEq, false_and, and_false, decide_true, decide_false]
      exact hK _ _ ⟨_, rfl, u.1 _ _ hne hT2⟩
    · obtain ⟨o1, rfl, hT1⟩ := hI
      simp only [dRet, dRetN, dSeq, dAsg, dDrop, dIfS, dNext, dBreak, dCont, dPar, dSetL, dSetD, dFor, dVar, dC, dOp, dAndV, dOrV, dNotV, dAnd, dOr, dNot, dIf, dTest, dChain, dNil, dCons, dTup, dLst, dLstM, dStar, dNeg, dCB, dCall, dCallK, dMthT, dMth0, dLc, dYes, dISeq, dIStr, dIEnum, dIZip, dIRng1, dIRng2, dSl, dPart, dNoPart, dRaise, dDisp1, dNewD, dRevL, dRevT, dSortSet, dSortSetL, dIRng3, dGet2, dIKeys, dNewT, dSetT, dLstRg, dPar3, dLamA, dLamB, gdName, gdTup, gdCons, gdNil, dstart, dwipe, dAug, rdInt, rdSub, rdLt, rdLe, rdGt, rdGe, rdFdiv, rdMod, rdPow, at0, at1, at2, i30, i31, i32, set0, set1, set2, MO.lst.injEq, gup_same, gup_gup, ad_ii, ad_ss, ad_tt, ad_ll, mu_ii, mu_li, mu_ti, ix_t, ix_l, ix_s, ix_r, ix_w, ln_t, ln_l, ln_s, ln_w, ln_r, sr_t, sr_l, sr_s, sr_r, sl_t, sl_l, sl_s, sl_r, sl_w, tu_t, tu_l, tu_r, li_t, li_l, li_r, lm_t, lm_l, mx2, mn2, ab1, in1, is2, rdIsB, rdNotB, rdIsN, rdNotN, TD.isNon, List.map_cons, List.map_nil, List.length_cons, List.length_nil, List.replicate_succ, List.replicate_zero, List.cons_append, List.nil_append, List.append_nil, Nat.zero_add, Nat.reduceAdd, Nat.reduceSub, Nat.sub_self, Nat.add_sub_cancel, List.getElem?_cons_zero, List.getElem?_cons_succ, List.getElem?_nil, List.set_cons_zero, List.set_cons_succ, List.set_nil, Option.some.injEq, D.int.injEq, D.bl.injEq, D.str.injEq, D.ref.injEq, D.ty.injEq, D.tup.injEq, D.lst.injEq, List.cons.injEq, and_true, true_and, ex_two, ex_two', exists_eq_left', exists_eq_left, exists_and_left, exists_and_right, exists_const, exists_eq_right, exists_eq_right', Bool.not_true, Bool.not_false, if_true, if_false, Bool.false_eq_true, reduceCtorEq, false_and, and_false, decide_true, decide_false]
      repeat refine and_sz (by omega) ?_
      obtain ⟨q1, B⟩ := best_ex30 (ts := exT) (gap := 2) (span := 10) exW (by decide)
      refine heavy_of (ts := exT) exW (by decide) (by decide) (by decide) (by decide) B fun G2 e2 => ?_
      rw [exBest B]
      refine eq_pur rfl rfl ?_
      rw [deq_ii]
      exact q G2
  · exact h.elim
end K06
namespace K06
open PySem PySem.Spec PyProof.Rows L2 TD
/-! ### the head -/
def top (i : Nat) : Stmt := PySem.Challenge.pw_tollkeeper_k06_whole_loads.main.body.getD i (.Pass ⟨0, 0, 0, 0⟩)
abbrev s_is_in : Stmt := top 4
abbrev s_is_ascending : Stmt := top 5
abbrev s_demand : Stmt := top 6
abbrev s_is_axle : Stmt := top 18
abbrev s_is_truck : Stmt := top 19
abbrev s_are_trucks : Stmt := top 20
abbrev s_is_place : Stmt := top 21
abbrev s_are_fronts : Stmt := top 22
abbrev s_weight_on : Stmt := top 23
abbrev s_load_of : Stmt := top 24
abbrev s_load : Stmt := top 25
abbrev s_best_from : Stmt := top 26
abbrev s_heaviest_of : Stmt := top 27
abbrev s_demand_bridge : Stmt := top 28
abbrev s_heaviest : Stmt := top 29
abbrev s_convoy : Stmt := top 30
abbrev s_is_convoy : Stmt := top 31
abbrev s_least_gap : Stmt := top 32
abbrev s__law_dice : Stmt := top 34
abbrev s__law_roll : Stmt := top 35
abbrev s__law_pick : Stmt := top 36
abbrev s__law_refused : Stmt := top 37
abbrev s__law_on : Stmt := top 38
abbrev s__law_most : Stmt := top 39
abbrev s__law_by_search : Stmt := top 40
abbrev s__law_fronts_right : Stmt := top 41
abbrev s__law_is_due : Stmt := top 42
abbrev s__law_truck : Stmt := top 43
abbrev s__law_drawn : Stmt := top 44
abbrev s__law_near : Stmt := top 45
abbrev s__law_refuses : Stmt := top 46
abbrev s__law_right : Stmt := top 47
abbrev s_law : Stmt := top 48
def d_is_in : He.DefD := ⟨("is_in", none), "is_in", "is_in", defArgs s_is_in, defBody s_is_in, defScope s_is_in, [], []⟩
def d_is_ascending : He.DefD := ⟨("is_ascending", none), "is_ascending", "is_ascending", defArgs s_is_ascending, defBody s_is_ascending, defScope s_is_ascending, [], []⟩
def d_demand : He.DefD := ⟨("demand", none), "demand", "demand", defArgs s_demand, defBody s_demand, defScope s_demand, [], []⟩
def d_is_axle : He.DefD := ⟨("is_axle", none), "is_axle", "is_axle", defArgs s_is_axle, defBody s_is_axle, defScope s_is_axle, [], []⟩
def d_is_truck : He.DefD := ⟨("is_truck", none), "is_truck", "is_truck", defArgs s_is_truck, defBody s_is_truck, defScope s_is_truck, [], []⟩
def d_are_trucks : He.DefD := ⟨("are_trucks", none), "are_trucks", "are_trucks", defArgs s_are_trucks, defBody s_are_trucks, defScope s_are_trucks, [], []⟩
def d_is_place : He.DefD := ⟨("is_place", none), "is_place", "is_place", defArgs s_is_place, defBody s_is_place, defScope s_is_place, [], []⟩
def d_are_fronts : He.DefD := ⟨("are_fronts", none), "are_fronts", "are_fronts", defArgs s_are_fronts, defBody s_are_fronts, defScope s_are_fronts, [], []⟩
def d_weight_on : He.DefD := ⟨("weight_on", none), "weight_on", "weight_on", defArgs s_weight_on, defBody s_weight_on, defScope s_weight_on, [], []⟩
def d_load_of : He.DefD := ⟨("load_of", none), "load_of", "load_of", defArgs s_load_of, defBody s_load_of, defScope s_load_of, [], []⟩
def d_load : He.DefD := ⟨("load", none), "load", "load", defArgs s_load, defBody s_load, defScope s_load, [], []⟩
def d_best_from : He.DefD := ⟨("best_from", none), "best_from", "best_from", defArgs s_best_from, defBody s_best_from, defScope s_best_from, [], []⟩
def d_heaviest_of : He.DefD := ⟨("heaviest_of", none), "heaviest_of", "heaviest_of", defArgs s_heaviest_of, defBody s_heaviest_of, defScope s_heaviest_of, [], []⟩
def d_demand_bridge : He.DefD := ⟨("demand_bridge", none), "demand_bridge", "demand_bridge", defArgs s_demand_bridge, defBody s_demand_bridge, defScope s_demand_bridge, [], []⟩
def d_heaviest : He.DefD := ⟨("heaviest", none), "heaviest", "heaviest", defArgs s_heaviest, defBody s_heaviest, defScope s_heaviest, [], []⟩
def d_convoy : He.DefD := ⟨("convoy", none), "convoy", "convoy", defArgs s_convoy, defBody s_convoy, defScope s_convoy, [], []⟩
def d_is_convoy : He.DefD := ⟨("is_convoy", none), "is_convoy", "is_convoy", defArgs s_is_convoy, defBody s_is_convoy, defScope s_is_convoy, [], []⟩
def d_least_gap : He.DefD := ⟨("least_gap", none), "least_gap", "least_gap", defArgs s_least_gap, defBody s_least_gap, defScope s_least_gap, [], []⟩
def d__law_dice : He.DefD := ⟨("_law_dice", none), "_law_dice", "_law_dice", defArgs s__law_dice, defBody s__law_dice, defScope s__law_dice, [], []⟩
def d__law_roll : He.DefD := ⟨("_law_roll", none), "_law_roll", "_law_roll", defArgs s__law_roll, defBody s__law_roll, defScope s__law_roll, [], []⟩
def d__law_pick : He.DefD := ⟨("_law_pick", none), "_law_pick", "_law_pick", defArgs s__law_pick, defBody s__law_pick, defScope s__law_pick, [], []⟩
def d__law_refused : He.DefD := ⟨("_law_refused", none), "_law_refused", "_law_refused", defArgs s__law_refused, defBody s__law_refused, defScope s__law_refused, [], []⟩
def d__law_on : He.DefD := ⟨("_law_on", none), "_law_on", "_law_on", defArgs s__law_on, defBody s__law_on, defScope s__law_on, [], []⟩
def d__law_most : He.DefD := ⟨("_law_most", none), "_law_most", "_law_most", defArgs s__law_most, defBody s__law_most, defScope s__law_most, [], []⟩
def d__law_by_search : He.DefD := ⟨("_law_by_search", none), "_law_by_search", "_law_by_search", defArgs s__law_by_search, defBody s__law_by_search, defScope s__law_by_search, [], []⟩
def d__law_fronts_right : He.DefD := ⟨("_law_fronts_right", none), "_law_fronts_right", "_law_fronts_right", defArgs s__law_fronts_right, defBody s__law_fronts_right, defScope s__law_fronts_right, [], []⟩
def d__law_is_due : He.DefD := ⟨("_law_is_due", none), "_law_is_due", "_law_is_due", defArgs s__law_is_due, defBody s__law_is_due, defScope s__law_is_due, [], []⟩
def d__law_truck : He.DefD := ⟨("_law_truck", none), "_law_truck", "_law_truck", defArgs s__law_truck, defBody s__law_truck, defScope s__law_truck, [], []⟩
def d__law_drawn : He.DefD := ⟨("_law_drawn", none), "_law_drawn", "_law_drawn", defArgs s__law_drawn, defBody s__law_drawn, defScope s__law_drawn, [], []⟩
def d__law_near : He.DefD := ⟨("_law_near", none), "_law_near", "_law_near", defArgs s__law_near, defBody s__law_near, defScope s__law_near, [], []⟩
def d__law_refuses : He.DefD := ⟨("_law_refuses", none), "_law_refuses", "_law_refuses", defArgs s__law_refuses, defBody s__law_refuses, defScope s__law_refuses, [], []⟩
def d__law_right : He.DefD := ⟨("_law_right", none), "_law_right", "_law_right", defArgs s__law_right, defBody s__law_right, defScope s__law_right, [], []⟩
def d_law : He.DefD := ⟨("law", none), "law", "law", defArgs s_law, defBody s_law, defScope s_law, [], []⟩
def fn : List He.DefD := [d_is_in, d_is_ascending, d_demand, d_is_axle, d_is_truck, d_are_trucks, d_is_place, d_are_fronts, d_weight_on, d_load_of, d_load, d_best_from, d_heaviest_of, d_demand_bridge, d_heaviest, d_convoy, d_is_convoy, d_least_gap, d__law_dice, d__law_roll, d__law_pick, d__law_refused, d__law_on, d__law_most, d__law_by_search, d__law_fronts_right, d__law_is_due, d__law_truck, d__law_drawn, d__law_near, d__law_refuses, d__law_right, d_law]
def fa : List He.Fa := [.glo "is_in", .glo "is_ascending", .glo "demand", .glo "is_axle", .glo "is_truck", .glo "are_trucks", .glo "is_place", .glo "are_fronts", .glo "weight_on", .glo "load_of", .glo "load", .glo "best_from", .glo "heaviest_of", .glo "demand_bridge", .glo "heaviest", .glo "convoy", .glo "is_convoy", .glo "least_gap", .glo "_law_dice", .glo "_law_roll", .glo "_law_pick", .glo "_law_refused", .glo "_law_on", .glo "_law_most", .glo "_law_by_search", .glo "_law_fronts_right", .glo "_law_is_due", .glo "_law_truck", .glo "_law_drawn", .glo "_law_near", .glo "_law_refuses", .glo "_law_right", .glo "law", .int "MOST_TRUCKS" 4, .int "MOST_LENGTH" 30, .int "MOST_AXLES" 5, .int "MOST_WEIGHT" 50, .int "MOST_GAP" 20, .int "MOST_SPAN" 100, .int "LEAST_FRONT" (-100), .int "MOST_FRONT" 200, .int "MOST_CONVOY" 200, .int "MOST_LIMIT" 10000, .free "len", .free "sum", .free "all", .free "any", .free "isinstance", .free "tuple", .free "list", .free "int", .free "bool", .free "range", .free "zip", .free "enumerate", .free "min", .free "max", .free "sorted", .free "set", .free "abs", .free "super"]
def tf : List He.Defn := [("_law_refuses", none)]
def ex (K : PySem.W.Frag) : Bool := ErrX.errB PySem.Challenge.pw_tollkeeper_k06_whole_loads .name K
abbrev R : PySem.W.OpenRow := PySem.W.OpenLaw.row PySem.Challenge.rw_tollkeeper_k06_whole_loads
abbrev hk : PySem.W.Hook := HeY.hookY 6 fa fn tf ex
def ob (s : PySem.W.SharedT) : He.AlX := HeY.obsY 6 fa fn tf ex (HandSHeadRun.getT s)
theorem ob_eq (s : PySem.W.SharedT) : ob s = hk.obs s.abs := HeY.obsY_eq (HandSHeadRun.getT_eq s)
def looseN : List PySem.Str := "is_in" :: "is_ascending" :: "demand" :: "is_axle" :: "is_truck" :: "are_trucks" :: "is_place" :: "are_fronts" :: "weight_on" :: "load_of" :: "load" :: "best_from" :: "heaviest_of" :: "demand_bridge" :: "heaviest" :: "convoy" :: "is_convoy" :: "least_gap" :: "_law_dice" :: "_law_roll" :: "_law_pick" :: "_law_refused" :: "_law_on" :: "_law_most" :: "_law_by_search" :: "_law_fronts_right" :: "_law_is_due" :: "_law_truck" :: "_law_drawn" :: "_law_near" :: "_law_refuses" :: "_law_right" :: "TollError" :: "BadArgument" :: "MOST_TRUCKS" :: "MOST_LENGTH" :: "MOST_AXLES" :: "MOST_WEIGHT" :: "MOST_GAP" :: "MOST_SPAN" :: "LEAST_FRONT" :: "MOST_FRONT" :: "MOST_CONVOY" :: "MOST_LIMIT" :: []
theorem run (w : World) : HandSHeadRun.RunEq R (PySem.W.view R.prog [48]) hk ob 3000 looseN w := by
  intro os
  kernel_rfl
end K06
namespace K06
open PySem PySem.Spec PyProof.Rows L2 TD
theorem sc_is_in : FnScope ["value", "low", "high"] ["value", "low", "high"] (defScope s_is_in) := ⟨rfl, rfl, rfl, by decide +kernel, rfl, by decide +kernel, by decide +kernel⟩
theorem sc_is_ascending : FnScope ["values", "one", "two"] ["values"] (defScope s_is_ascending) := ⟨rfl, rfl, rfl, by decide +kernel, rfl, by decide +kernel, by decide +kernel⟩
theorem sc_demand : FnScope ["is_good", "name"] ["is_good", "name"] (defScope s_demand) := ⟨rfl, rfl, rfl, by decide +kernel, rfl, by decide +kernel, by decide +kernel⟩
theorem sc_is_axle : FnScope ["value", "length"] ["value", "length"] (defScope s_is_axle) := ⟨rfl, rfl, rfl, by decide +kernel, rfl, by decide +kernel, by decide +kernel⟩
theorem sc_is_truck : FnScope ["value", "axle"] ["value"] (defScope s_is_truck) := ⟨rfl, rfl, rfl, by decide +kernel, rfl, by decide +kernel, by decide +kernel⟩
theorem sc_are_trucks : FnScope ["value", "truck"] ["value"] (defScope s_are_trucks) := ⟨rfl, rfl, rfl, by decide +kernel, rfl, by decide +kernel, by decide +kernel⟩
theorem sc_is_place : FnScope ["trucks", "value"] ["trucks", "value"] (defScope s_is_place) := ⟨rfl, rfl, rfl, by decide +kernel, rfl, by decide +kernel, by decide +kernel⟩
theorem sc_are_fronts : FnScope ["trucks", "value", "place"] ["trucks", "value"] (defScope s_are_fronts) := ⟨rfl, rfl, rfl, by decide +kernel, rfl, by decide +kernel, by decide +kernel⟩
theorem sc_weight_on : FnScope ["truck", "span", "front", "place", "weight"] ["truck", "span", "front"] (defScope s_weight_on) := ⟨rfl, rfl, rfl, by decide +kernel, rfl, by decide +kernel, by decide +kernel⟩
theorem sc_load_of : FnScope ["trucks", "span", "fronts", "truck", "front"] ["trucks", "span", "fronts"] (defScope s_load_of) := ⟨rfl, rfl, rfl, by decide +kernel, rfl, by decide +kernel, by decide +kernel⟩
theorem sc_load : FnScope ["trucks", "span", "fronts"] ["trucks", "span", "fronts"] (defScope s_load) := ⟨rfl, rfl, rfl, by decide +kernel, rfl, by decide +kernel, by decide +kernel⟩
theorem sc_best_from : FnScope ["trucks", "gap", "span", "best", "front", "rows", "at", "truck", "behind"] ["trucks", "gap", "span"] (defScope s_best_from) := ⟨rfl, rfl, rfl, by decide +kernel, rfl, by decide +kernel, by decide +kernel⟩
theorem sc_heaviest_of : FnScope ["trucks", "gap", "span"] ["trucks", "gap", "span"] (defScope s_heaviest_of) := ⟨rfl, rfl, rfl, by decide +kernel, rfl, by decide +kernel, by decide +kernel⟩
theorem sc_demand_bridge : FnScope ["trucks", "gap", "span"] ["trucks", "gap", "span"] (defScope s_demand_bridge) := ⟨rfl, rfl, rfl, by decide +kernel, rfl, by decide +kernel, by decide +kernel⟩
theorem sc_heaviest : FnScope ["trucks", "gap", "span"] ["trucks", "gap", "span"] (defScope s_heaviest) := ⟨rfl, rfl, rfl, by decide +kernel, rfl, by decide +kernel, by decide +kernel⟩
theorem sc_convoy : FnScope ["trucks", "gap", "span"] ["trucks", "gap", "span"] (defScope s_convoy) := ⟨rfl, rfl, rfl, by decide +kernel, rfl, by decide +kernel, by decide +kernel⟩
theorem sc_is_convoy : FnScope ["trucks", "gap", "span", "value", "one", "two"] ["trucks", "gap", "span", "value"] (defScope s_is_convoy) := ⟨rfl, rfl, rfl, by decide +kernel, rfl, by decide +kernel, by decide +kernel⟩
theorem sc_least_gap : FnScope ["trucks", "span", "limit", "gap"] ["trucks", "span", "limit"] (defScope s_least_gap) := ⟨rfl, rfl, rfl, by decide +kernel, rfl, by decide +kernel, by decide +kernel⟩
theorem sc__law_dice : FnScope ["script", "spot", "own", "mixed", "cell"] ["script", "spot"] (defScope s__law_dice) := ⟨rfl, rfl, rfl, by decide +kernel, rfl, by decide +kernel, by decide +kernel⟩
theorem sc__law_roll : FnScope ["dice", "total", "found"] ["dice", "total"] (defScope s__law_roll) := ⟨rfl, rfl, rfl, by decide +kernel, rfl, by decide +kernel, by decide +kernel⟩
theorem sc__law_pick : FnScope ["dice", "things"] ["dice", "things"] (defScope s__law_pick) := ⟨rfl, rfl, rfl, by decide +kernel, rfl, by decide +kernel, by decide +kernel⟩
theorem sc__law_refused : FnScope ["call", "e"] ["call"] (defScope s__law_refused) := ⟨rfl, rfl, rfl, by decide +kernel, rfl, by decide +kernel, by decide +kernel⟩
theorem sc__law_on : FnScope ["truck", "span", "front", "place", "weight"] ["truck", "span", "front"] (defScope s__law_on) := ⟨rfl, rfl, rfl, by decide +kernel, rfl, by decide +kernel, by decide +kernel⟩
theorem sc__law_most : FnScope ["trucks", "gap", "span", "best", "back", "front", "here", "truck"] ["trucks", "gap", "span"] (defScope s__law_most) := ⟨rfl, rfl, rfl, by decide +kernel, rfl, by decide +kernel, by decide +kernel⟩
theorem sc__law_by_search : FnScope ["trucks", "gap", "span", "rows", "best", "turn", "longer", "least", "weight", "truck", "front", "more"] ["trucks", "gap", "span"] (defScope s__law_by_search) := ⟨rfl, rfl, rfl, by decide +kernel, rfl, by decide +kernel, by decide +kernel⟩
theorem sc__law_fronts_right : FnScope ["trucks", "value", "one", "part"] ["trucks", "value"] (defScope s__law_fronts_right) := ⟨rfl, rfl, rfl, by decide +kernel, rfl, by decide +kernel, by decide +kernel⟩
theorem sc__law_is_due : FnScope ["trucks", "gap", "span", "value", "most", "at", "truck", "front"] ["trucks", "gap", "span", "value", "most"] (defScope s__law_is_due) := ⟨rfl, rfl, rfl, by decide +kernel, rfl, by decide +kernel, by decide +kernel⟩
theorem sc__law_truck : FnScope ["dice", "far", "length", "axle", "places", "place"] ["dice", "far"] (defScope s__law_truck) := ⟨rfl, rfl, rfl, by decide +kernel, rfl, by decide +kernel, by decide +kernel⟩
theorem sc__law_drawn : FnScope ["dice", "trucks", "gap", "found", "front", "turn", "at"] ["dice", "trucks", "gap"] (defScope s__law_drawn) := ⟨rfl, rfl, rfl, by decide +kernel, rfl, by decide +kernel, by decide +kernel⟩
theorem sc__law_near : FnScope ["dice", "value", "at", "by", "truck", "front", "later"] ["dice", "value"] (defScope s__law_near) := ⟨rfl, rfl, rfl, by decide +kernel, rfl, by decide +kernel, by decide +kernel⟩
theorem sc__law_refuses : FnScope ["dice", "trucks", "gap", "span", "bad", "odd", "wrong", "told"] ["dice", "trucks", "gap", "span"] (defScope s__law_refuses) := ⟨rfl, rfl, rfl, by decide +kernel, rfl, by decide +kernel, by decide +kernel⟩
theorem sc__law_right : FnScope ["dice", "far", "turn", "trucks", "gap", "span", "most", "found", "some", "truck", "front", "weight", "near", "limit", "one", "good"] ["dice"] (defScope s__law_right) := ⟨rfl, rfl, rfl, by decide +kernel, rfl, by decide +kernel, by decide +kernel⟩
theorem sc_law : FnScope ["script", "spot"] ["script"] (defScope s_law) := ⟨rfl, rfl, rfl, by decide +kernel, rfl, by decide +kernel, by decide +kernel⟩
structure Top (P : Program) (K : PySem.W.Frag) (mg : PySem.Str → Option Value) where
  A : Ad
  f_is_in : Fn K mg "is_in" s_is_in ["value", "low", "high"]
  f_is_ascending : Fn K mg "is_ascending" s_is_ascending ["values"]
  f_demand : Fn K mg "demand" s_demand ["is_good", "name"]
  f_is_axle : Fn K mg "is_axle" s_is_axle ["value", "length"]
  f_is_truck : Fn K mg "is_truck" s_is_truck ["value"]
  f_are_trucks : Fn K mg "are_trucks" s_are_trucks ["value"]
  f_is_place : Fn K mg "is_place" s_is_place ["trucks", "value"]
  f_are_fronts : Fn K mg "are_fronts" s_are_fronts ["trucks", "value"]
  f_weight_on : Fn K mg "weight_on" s_weight_on ["truck", "span", "front"]
  f_load_of : Fn K mg "load_of" s_load_of ["trucks", "span", "fronts"]
  f_load : Fn K mg "load" s_load ["trucks", "span", "fronts"]
  f_best_from : Fn K mg "best_from" s_best_from ["trucks", "gap", "span"]
  f_heaviest_of : Fn K mg "heaviest_of" s_heaviest_of ["trucks", "gap", "span"]
  f_demand_bridge : Fn K mg "demand_bridge" s_demand_bridge ["trucks", "gap", "span"]
  f_heaviest : Fn K mg "heaviest" s_heaviest ["trucks", "gap", "span"]
  f_convoy : Fn K mg "convoy" s_convoy ["trucks", "gap", "span"]
  f_is_convoy : Fn K mg "is_convoy" s_is_convoy ["trucks", "gap", "span", "value"]
  f_least_gap : Fn K mg "least_gap" s_least_gap ["trucks", "span", "limit"]
  f__law_dice : Fn K mg "_law_dice" s__law_dice ["script", "spot"]
  f__law_roll : Fn K mg "_law_roll" s__law_roll ["dice", "total"]
  f__law_pick : Fn K mg "_law_pick" s__law_pick ["dice", "things"]
  f__law_refused : Fn K mg "_law_refused" s__law_refused ["call"]
  f__law_on : Fn K mg "_law_on" s__law_on ["truck", "span", "front"]
  f__law_most : Fn K mg "_law_most" s__law_most ["trucks", "gap", "span"]
  f__law_by_search : Fn K mg "_law_by_search" s__law_by_search ["trucks", "gap", "span"]
  f__law_fronts_right : Fn K mg "_law_fronts_right" s__law_fronts_right ["trucks", "value"]
  f__law_is_due : Fn K mg "_law_is_due" s__law_is_due ["trucks", "gap", "span", "value", "most"]
  f__law_truck : Fn K mg "_law_truck" s__law_truck ["dice", "far"]
  f__law_drawn : Fn K mg "_law_drawn" s__law_drawn ["dice", "trucks", "gap"]
  f__law_near : Fn K mg "_law_near" s__law_near ["dice", "value"]
  f__law_refuses : Fn K mg "_law_refuses" s__law_refuses ["dice", "trucks", "gap", "span"]
  f__law_right : Fn K mg "_law_right" s__law_right ["dice"]
  f_law : Fn K mg "law" s_law ["script"]
  n_len : mg "len" = none
  n_sum : mg "sum" = none
  n_all : mg "all" = none
  n_any : mg "any" = none
  n_isinstance : mg "isinstance" = none
  n_tuple : mg "tuple" = none
  n_list : mg "list" = none
  n_int : mg "int" = none
  n_bool : mg "bool" = none
  n_range : mg "range" = none
  n_zip : mg "zip" = none
  n_enumerate : mg "enumerate" = none
  n_min : mg "min" = none
  n_max : mg "max" = none
  n_sorted : mg "sorted" = none
  n_set : mg "set" = none
  n_abs : mg "abs" = none
  n_super : mg "super" = none
  c_MOST_TRUCKS : ∃ t, mg "MOST_TRUCKS" = some (.int 4 t)
  c_MOST_LENGTH : ∃ t, mg "MOST_LENGTH" = some (.int 30 t)
  c_MOST_AXLES : ∃ t, mg "MOST_AXLES" = some (.int 5 t)
  c_MOST_WEIGHT : ∃ t, mg "MOST_WEIGHT" = some (.int 50 t)
  c_MOST_GAP : ∃ t, mg "MOST_GAP" = some (.int 20 t)
  c_MOST_SPAN : ∃ t, mg "MOST_SPAN" = some (.int 100 t)
  c_LEAST_FRONT : ∃ t, mg "LEAST_FRONT" = some (.int (-100) t)
  c_MOST_FRONT : ∃ t, mg "MOST_FRONT" = some (.int 200 t)
  c_MOST_CONVOY : ∃ t, mg "MOST_CONVOY" = some (.int 200 t)
  c_MOST_LIMIT : ∃ t, mg "MOST_LIMIT" = some (.int 10000 t)
  fBad : Addr
  err_BadArgument : ErrX.Txt P K mg .name A.cBad fBad
  c_law_refuses : Addr
  e_law_refuses : f__law_refuses.fd.code = .ref c_law_refuses
section
variable {P : Program} {w : World} {K : PySem.W.Frag} {mg : PySem.Str → Option Value} {base : Heap}
theorem ok_is_in (T : Top P K mg) : FnD P w K mg base 1 T.f_is_in.f T.f_is_in.fd ["value", "low", "high"] (sp_is_in T.A) := by
  refine fnDn (N := ["value", "low", "high"]) (ds := ds_is_in T.A) T.f_is_in sc_is_in (fun zs G Q x h => len_is_in h) (fun cdv A outer s H E hr tk => ?_) (fun zs G Q x h => read_is_in h)
  unfold ds_is_in
  refine pdss_one ?_
  refine pds_ret ?_
  refine pd_and ?_ ?_
  · refine pd_callB call_isi cll_isi T.n_isinstance ?_
    refine pda_cons ?_ ?_
    · exact pd_var 0
    · refine pda_cons ?_ ?_
      · exact pd_ty T.n_int
      · exact pda_nil
  · refine pd_and ?_ ?_
    · refine pd_not ?_
      refine pd_callB call_isi cll_isi T.n_isinstance ?_
      refine pda_cons ?_ ?_
      · exact pd_var 0
      · refine pda_cons ?_ ?_
        · exact pd_ty T.n_bool
        · exact pda_nil
    · refine pd_one ?_
      refine pd_chain op_le opl_le op_le opl_le ?_ ?_ ?_
      · exact pd_var 1
      · exact pd_var 0
      · exact pd_var 2
theorem ok_is_ascending (T : Top P K mg) : FnD P w K mg base 1 T.f_is_ascending.f T.f_is_ascending.fd ["values"] (sp_is_ascending T.A) := by
  refine fnDn (N := ["values", "one", "two"]) (ds := ds_is_ascending T.A) T.f_is_ascending sc_is_ascending (fun zs G Q x h => len_is_ascending h) (fun cdv A outer s H E hr tk => ?_) (fun zs G Q x h => read_is_ascending h)
  unfold ds_is_ascending
  refine pdss_one ?_
  refine pds_ret ?_
  refine pd_callB (cr_all rfl) cll_all T.n_all ?_
  refine pda_cons ?_ ?_
  · refine pd_lc [("one", 1), ("two", 2)] rfl sc_is_ascending.nd ?_ (blkOk_by (by first | rfl | with_unfolding_all rfl)) (fun sb Hb Cb clb fpb => ?_) (fun sb Hb Cb clb fpb => ?_) (fun sb Hb Cb clb fpb => ?_)
    · refine pdi_zip T.n_zip ?_
      refine pda_cons ?_ ?_
      · exact pd_var 0
      · refine pda_cons ?_ ?_
        · refine pd_slice ?_ ?_ ?_
          · exact pd_var 0
          · refine pdo_some ?_
            exact pd_int
          · exact pdo_none
        · exact pda_nil
    · refine pdg_tup rfl ?_
      refine pdgs_cons ?_ ?_
      · exact pdg_name 1 sc_is_ascending.nd
      · refine pdgs_cons ?_ ?_
        · exact pdg_name 2 sc_is_ascending.nd
        · exact pdgs_nil
    · exact pdts_nil
    · refine pd_cmp op_lt opl_lt ?_ ?_
      · exact pd_var 1
      · exact pd_var 2
  · exact pda_nil
theorem ok_demand (T : Top P K mg) : FnD P w K mg base 2 T.f_demand.f T.f_demand.fd ["is_good", "name"] (sp_demand T.A) := by
  refine fnDn (N := ["is_good", "name"]) (ds := ds_demand T.A) T.f_demand sc_demand (fun zs G Q x h => len_demand h) (fun cdv A outer s H E hr tk => ?_) (fun zs G Q x h => read_demand h)
  unfold ds_demand
  refine pdss_one ?_
  refine pds_if ?_ ?_ ?_
  · refine pdt_not ?_
    refine pdt_val ?_
    exact pd_var 0
  · refine pdss_one ?_
    refine pds_raise (ef := .name) rfl T.err_BadArgument hr (by decide) tk ?_ rfl
    exact pd_var 1
  · exact pdss_nil
theorem ok_is_axle (T : Top P K mg) : FnD P w K mg base 2 T.f_is_axle.f T.f_is_axle.fd ["value", "length"] (sp_is_axle T.A) := by
  refine fnDn (N := ["value", "length"]) (ds := ds_is_axle T.A) T.f_is_axle sc_is_axle (fun zs G Q x h => len_is_axle h) (fun cdv A outer s H E hr tk => ?_) (fun zs G Q x h => read_is_axle h)
  unfold ds_is_axle
  refine pdss_cons ?_ ?_
  · refine pds_if ?_ ?_ ?_
    · refine pdt_w ?_
      refine pdw_or ?_ ?_
      · refine pdt_not ?_
        refine pdt_val ?_
        refine pd_callB call_isi cll_isi T.n_isinstance ?_
        refine pda_cons ?_ ?_
        · exact pd_var 0
        · refine pda_cons ?_ ?_
          · exact pd_ty T.n_tuple
          · exact pda_nil
      · refine pdw_or1 ?_
        refine pdt_cmp (op_neD hr.units) opl_ne ?_ ?_
        · refine pd_callB call_len cll_len T.n_len ?_
          refine pda_cons ?_ ?_
          · exact pd_var 0
          · exact pda_nil
        · exact pd_int
    · refine pdss_one ?_
      refine pds_ret ?_
      exact pd_bl
    · exact pdss_nil
  · refine pdss_one ?_
    refine pds_ret ?_
    refine pd_and ?_ ?_
    · refine pd_call (ok_is_in T) (hr.mono (by decide)) T.f_is_in.g T.f_is_in.F.kp T.f_is_in.b tk ?_
      refine pda_cons ?_ ?_
      · refine pd_ix ?_ ?_
        · exact pd_var 0
        · exact pd_int
      · refine pda_cons ?_ ?_
        · exact pd_int
        · refine pda_cons ?_ ?_
          · exact pd_var 1
          · exact pda_nil
    · refine pd_one ?_
      refine pd_call (ok_is_in T) (hr.mono (by decide)) T.f_is_in.g T.f_is_in.F.kp T.f_is_in.b tk ?_
      refine pda_cons ?_ ?_
      · refine pd_ix ?_ ?_
        · exact pd_var 0
        · exact pd_int
      · refine pda_cons ?_ ?_
        · exact pd_int
        · refine pda_cons ?_ ?_
          · exact pd_gint T.c_MOST_WEIGHT.choose_spec
          · exact pda_nil
theorem ok_is_truck (T : Top P K mg) : FnD P w K mg base 3 T.f_is_truck.f T.f_is_truck.fd ["value"] (sp_is_truck T.A) := by
  refine fnDn (N := ["value", "axle"]) (ds := ds_is_truck T.A) T.f_is_truck sc_is_truck (fun zs G Q x h => len_is_truck h) (fun cdv A outer s H E hr tk => ?_) (fun zs G Q x h => read_is_truck h)
  unfold ds_is_truck
  refine pdss_cons ?_ ?_
  · refine pds_if ?_ ?_ ?_
    · refine pdt_w ?_
      refine pdw_or ?_ ?_
      · refine pdt_not ?_
        refine pdt_val ?_
        refine pd_callB call_isi cll_isi T.n_isinstance ?_
        refine pda_cons ?_ ?_
        · exact pd_var 0
        · refine pda_cons ?_ ?_
          · exact pd_ty T.n_tuple
          · exact pda_nil
      · refine pdw_or ?_ ?_
        · refine pdt_cmp (op_neD hr.units) opl_ne ?_ ?_
          · refine pd_callB call_len cll_len T.n_len ?_
            refine pda_cons ?_ ?_
            · exact pd_var 0
            · exact pda_nil
          · exact pd_int
        · refine pdw_or1 ?_
          refine pdt_not ?_
          refine pdt_val ?_
          refine pd_call (ok_is_in T) (hr.mono (by decide)) T.f_is_in.g T.f_is_in.F.kp T.f_is_in.b tk ?_
          refine pda_cons ?_ ?_
          · refine pd_ix ?_ ?_
            · exact pd_var 0
            · exact pd_int
          · refine pda_cons ?_ ?_
            · exact pd_int
            · refine pda_cons ?_ ?_
              · exact pd_gint T.c_MOST_LENGTH.choose_spec
              · exact pda_nil
    · refine pdss_one ?_
      refine pds_ret ?_
      exact pd_bl
    · exact pdss_nil
  · refine pdss_cons ?_ ?_
    · refine pds_if ?_ ?_ ?_
      · refine pdt_w ?_
        refine pdw_or ?_ ?_
        · refine pdt_not ?_
          refine pdt_val ?_
          refine pd_callB call_isi cll_isi T.n_isinstance ?_
          refine pda_cons ?_ ?_
          · refine pd_ix ?_ ?_
            · exact pd_var 0
            · exact pd_int
          · refine pda_cons ?_ ?_
            · exact pd_ty T.n_tuple
            · exact pda_nil
        · refine pdw_or1 ?_
          refine pdt_not ?_
          refine pdt_chain op_le opl_le op_le opl_le ?_ ?_ ?_
          · exact pd_int
          · refine pd_callB call_len cll_len T.n_len ?_
            refine pda_cons ?_ ?_
            · refine pd_ix ?_ ?_
              · exact pd_var 0
              · exact pd_int
            · exact pda_nil
          · exact pd_gint T.c_MOST_AXLES.choose_spec
      · refine pdss_one ?_
        refine pds_ret ?_
        exact pd_bl
      · exact pdss_nil
    · refine pdss_one ?_
      refine pds_ret ?_
      refine pd_and ?_ ?_
      · refine pd_callB (cr_all rfl) cll_all T.n_all ?_
        refine pda_cons ?_ ?_
        · refine pd_lc [("axle", 1)] rfl sc_is_truck.nd ?_ (blkOk_by (by first | rfl | with_unfolding_all rfl)) (fun sb Hb Cb clb fpb => ?_) (fun sb Hb Cb clb fpb => ?_) (fun sb Hb Cb clb fpb => ?_)
          · refine pdi_seq ?_
            refine pd_ix ?_ ?_
            · exact pd_var 0
            · exact pd_int
          · exact pdg_name 1 sc_is_truck.nd
          · exact pdts_nil
          · refine pd_call (ok_is_axle T) (hr.mono (by decide)) T.f_is_axle.g T.f_is_axle.F.kp T.f_is_axle.b L2.takes0 ?_
            refine pda_cons ?_ ?_
            · exact pd_var 1
            · refine pda_cons ?_ ?_
              · refine pd_ix ?_ ?_
                · exact pd_var 0
                · exact pd_int
              · exact pda_nil
        · exact pda_nil
      · refine pd_one ?_
        refine pd_call (ok_is_ascending T) (hr.mono (by decide)) T.f_is_ascending.g T.f_is_ascending.F.kp T.f_is_ascending.b tk ?_
        refine pda_cons ?_ ?_
        · refine pd_lc [("axle", 1)] rfl sc_is_truck.nd ?_ (blkOk_by (by first | rfl | with_unfolding_all rfl)) (fun sb Hb Cb clb fpb => ?_) (fun sb Hb Cb clb fpb => ?_) (fun sb Hb Cb clb fpb => ?_)
          · refine pdi_seq ?_
            refine pd_ix ?_ ?_
            · exact pd_var 0
            · exact pd_int
          · exact pdg_name 1 sc_is_truck.nd
          · exact pdts_nil
          · refine pd_ix ?_ ?_
            · exact pd_var 1
            · exact pd_int
        · exact pda_nil
theorem ok_are_trucks (T : Top P K mg) : FnD P w K mg base 4 T.f_are_trucks.f T.f_are_trucks.fd ["value"] (sp_are_trucks T.A) := by
  refine fnDn (N := ["value", "truck"]) (ds := ds_are_trucks T.A) T.f_are_trucks sc_are_trucks (fun zs G Q x h => len_are_trucks h) (fun cdv A outer s H E hr tk => ?_) (fun zs G Q x h => read_are_trucks h)
  unfold ds_are_trucks
  refine pdss_one ?_
  refine pds_ret ?_
  refine pd_and ?_ ?_
  · refine pd_callB call_isi cll_isi T.n_isinstance ?_
    refine pda_cons ?_ ?_
    · exact pd_var 0
    · refine pda_cons ?_ ?_
      · exact pd_ty T.n_tuple
      · exact pda_nil
  · refine pd_and ?_ ?_
    · refine pd_chain op_le opl_le op_le opl_le ?_ ?_ ?_
      · exact pd_int
      · refine pd_callB call_len cll_len T.n_len ?_
        refine pda_cons ?_ ?_
        · exact pd_var 0
        · exact pda_nil
      · exact pd_gint T.c_MOST_TRUCKS.choose_spec
    · refine pd_one ?_
      refine pd_callB (cr_all rfl) cll_all T.n_all ?_
      refine pda_cons ?_ ?_
      · refine pd_lc [("truck", 1)] rfl sc_are_trucks.nd ?_ (blkOk_by (by first | rfl | with_unfolding_all rfl)) (fun sb Hb Cb clb fpb => ?_) (fun sb Hb Cb clb fpb => ?_) (fun sb Hb Cb clb fpb => ?_)
        · refine pdi_seq ?_
          exact pd_var 0
        · exact pdg_name 1 sc_are_trucks.nd
        · exact pdts_nil
        · refine pd_call (ok_is_truck T) (hr.mono (by decide)) T.f_is_truck.g T.f_is_truck.F.kp T.f_is_truck.b L2.takes0 ?_
          refine pda_cons ?_ ?_
          · exact pd_var 1
          · exact pda_nil
      · exact pda_nil
theorem ok_is_place (T : Top P K mg) : FnD P w K mg base 2 T.f_is_place.f T.f_is_place.fd ["trucks", "value"] (sp_is_place T.A) := by
  refine fnDn (N := ["trucks", "value"]) (ds := ds_is_place T.A) T.f_is_place sc_is_place (fun zs G Q x h => len_is_place h) (fun cdv A outer s H E hr tk => ?_) (fun zs G Q x h => read_is_place h)
  unfold ds_is_place
  refine pdss_cons ?_ ?_
  · refine pds_if ?_ ?_ ?_
    · refine pdt_w ?_
      refine pdw_or ?_ ?_
      · refine pdt_not ?_
        refine pdt_val ?_
        refine pd_callB call_isi cll_isi T.n_isinstance ?_
        refine pda_cons ?_ ?_
        · exact pd_var 1
        · refine pda_cons ?_ ?_
          · exact pd_ty T.n_tuple
          · exact pda_nil
      · refine pdw_or ?_ ?_
        · refine pdt_cmp (op_neD hr.units) opl_ne ?_ ?_
          · refine pd_callB call_len cll_len T.n_len ?_
            refine pda_cons ?_ ?_
            · exact pd_var 1
            · exact pda_nil
          · exact pd_int
        · refine pdw_or1 ?_
          refine pdt_not ?_
          refine pdt_val ?_
          refine pd_call (ok_is_in T) (hr.mono (by decide)) T.f_is_in.g T.f_is_in.F.kp T.f_is_in.b tk ?_
          refine pda_cons ?_ ?_
          · refine pd_ix ?_ ?_
            · exact pd_var 1
            · exact pd_int
          · refine pda_cons ?_ ?_
            · exact pd_int
            · refine pda_cons ?_ ?_
              · refine pd_op op_sub opl_sub ?_ ?_
                · refine pd_callB call_len cll_len T.n_len ?_
                  refine pda_cons ?_ ?_
                  · exact pd_var 0
                  · exact pda_nil
                · exact pd_int
              · exact pda_nil
    · refine pdss_one ?_
      refine pds_ret ?_
      exact pd_bl
    · exact pdss_nil
  · refine pdss_one ?_
    refine pds_ret ?_
    refine pd_call (ok_is_in T) (hr.mono (by decide)) T.f_is_in.g T.f_is_in.F.kp T.f_is_in.b tk ?_
    refine pda_cons ?_ ?_
    · refine pd_ix ?_ ?_
      · exact pd_var 1
      · exact pd_int
    · refine pda_cons ?_ ?_
      · exact pd_gint T.c_LEAST_FRONT.choose_spec
      · refine pda_cons ?_ ?_
        · exact pd_gint T.c_MOST_FRONT.choose_spec
        · exact pda_nil
theorem ok_are_fronts (T : Top P K mg) : FnD P w K mg base 3 T.f_are_fronts.f T.f_are_fronts.fd ["trucks", "value"] (sp_are_fronts T.A) := by
  refine fnDn (N := ["trucks", "value", "place"]) (ds := ds_are_fronts T.A) T.f_are_fronts sc_are_fronts (fun zs G Q x h => len_are_fronts h) (fun cdv A outer s H E hr tk => ?_) (fun zs G Q x h => read_are_fronts h)
  unfold ds_are_fronts
  refine pdss_one ?_
  refine pds_ret ?_
  refine pd_and ?_ ?_
  · refine pd_callB call_isi cll_isi T.n_isinstance ?_
    refine pda_cons ?_ ?_
    · exact pd_var 1
    · refine pda_cons ?_ ?_
      · exact pd_ty T.n_tuple
      · exact pda_nil
  · refine pd_and ?_ ?_
    · refine pd_cmp op_le opl_le ?_ ?_
      · refine pd_callB call_len cll_len T.n_len ?_
        refine pda_cons ?_ ?_
        · exact pd_var 1
        · exact pda_nil
      · exact pd_gint T.c_MOST_CONVOY.choose_spec
    · refine pd_one ?_
      refine pd_callB (cr_all rfl) cll_all T.n_all ?_
      refine pda_cons ?_ ?_
      · refine pd_lc [("place", 2)] rfl sc_are_fronts.nd ?_ (blkOk_by (by first | rfl | with_unfolding_all rfl)) (fun sb Hb Cb clb fpb => ?_) (fun sb Hb Cb clb fpb => ?_) (fun sb Hb Cb clb fpb => ?_)
        · refine pdi_seq ?_
          exact pd_var 1
        · exact pdg_name 2 sc_are_fronts.nd
        · exact pdts_nil
        · refine pd_call (ok_is_place T) (hr.mono (by decide)) T.f_is_place.g T.f_is_place.F.kp T.f_is_place.b L2.takes0 ?_
          refine pda_cons ?_ ?_
          · exact pd_var 0
          · refine pda_cons ?_ ?_
            · exact pd_var 2
            · exact pda_nil
      · exact pda_nil
theorem ok_weight_on (T : Top P K mg) : FnD P w K mg base 1 T.f_weight_on.f T.f_weight_on.fd ["truck", "span", "front"] (sp_weight_on T.A) := by
  refine fnDn (N := ["truck", "span", "front", "place", "weight"]) (ds := ds_weight_on T.A) T.f_weight_on sc_weight_on (fun zs G Q x h => len_weight_on h) (fun cdv A outer s H E hr tk => ?_) (fun zs G Q x h => read_weight_on h)
  unfold ds_weight_on
  refine pdss_one ?_
  refine pds_ret ?_
  refine pd_callB (cr_sum rfl) cll_sum T.n_sum ?_
  refine pda_cons ?_ ?_
  · refine pd_lc [("place", 3), ("weight", 4)] rfl sc_weight_on.nd ?_ (blkOk_by (by first | rfl | with_unfolding_all rfl)) (fun sb Hb Cb clb fpb => ?_) (fun sb Hb Cb clb fpb => ?_) (fun sb Hb Cb clb fpb => ?_)
    · refine pdi_seq ?_
      refine pd_ix ?_ ?_
      · exact pd_var 0
      · exact pd_int
    · refine pdg_tup rfl ?_
      refine pdgs_cons ?_ ?_
      · exact pdg_name 3 sc_weight_on.nd
      · refine pdgs_cons ?_ ?_
        · exact pdg_name 4 sc_weight_on.nd
        · exact pdgs_nil
    · refine pdts_one ?_
      refine pdt_chain op_le opl_le op_le opl_le ?_ ?_ ?_
      · exact pd_int
      · refine pd_op opr_add opl_add ?_ ?_
        · exact pd_var 2
        · exact pd_var 3
      · exact pd_var 1
    · exact pd_var 4
  · exact pda_nil
theorem ok_load_of (T : Top P K mg) : FnD P w K mg base 2 T.f_load_of.f T.f_load_of.fd ["trucks", "span", "fronts"] (sp_load_of T.A) := by
  refine fnDn (N := ["trucks", "span", "fronts", "truck", "front"]) (ds := ds_load_of T.A) T.f_load_of sc_load_of (fun zs G Q x h => len_load_of h) (fun cdv A outer s H E hr tk => ?_) (fun zs G Q x h => read_load_of h)
  unfold ds_load_of
  refine pdss_one ?_
  refine pds_ret ?_
  refine pd_callB (cr_sum rfl) cll_sum T.n_sum ?_
  refine pda_cons ?_ ?_
  · refine pd_lc [("truck", 3), ("front", 4)] rfl sc_load_of.nd ?_ (blkOk_by (by first | rfl | with_unfolding_all rfl)) (fun sb Hb Cb clb fpb => ?_) (fun sb Hb Cb clb fpb => ?_) (fun sb Hb Cb clb fpb => ?_)
    · refine pdi_seq ?_
      exact pd_var 2
    · refine pdg_tup rfl ?_
      refine pdgs_cons ?_ ?_
      · exact pdg_name 3 sc_load_of.nd
      · refine pdgs_cons ?_ ?_
        · exact pdg_name 4 sc_load_of.nd
        · exact pdgs_nil
    · exact pdts_nil
    · refine pd_call (ok_weight_on T) (hr.mono (by decide)) T.f_weight_on.g T.f_weight_on.F.kp T.f_weight_on.b L2.takes0 ?_
      refine pda_cons ?_ ?_
      · refine pd_ix ?_ ?_
        · exact pd_var 0
        · exact pd_var 3
      · refine pda_cons ?_ ?_
        · exact pd_var 1
        · refine pda_cons ?_ ?_
          · exact pd_var 4
          · exact pda_nil
  · exact pda_nil
theorem ok_load (T : Top P K mg) : FnD P w K mg base 5 T.f_load.f T.f_load.fd ["trucks", "span", "fronts"] (sp_load T.A) := by
  refine fnDn (N := ["trucks", "span", "fronts"]) (ds := ds_load T.A) T.f_load sc_load (fun zs G Q x h => len_load h) (fun cdv A outer s H E hr tk => ?_) (fun zs G Q x h => read_load h)
  unfold ds_load
  refine pdss_cons ?_ ?_
  · refine pds_expr ?_
    refine pd_call (ok_demand T) (hr.mono (by decide)) T.f_demand.g T.f_demand.F.kp T.f_demand.b tk ?_
    refine pda_cons ?_ ?_
    · refine pd_call (ok_are_trucks T) (hr.mono (by decide)) T.f_are_trucks.g T.f_are_trucks.F.kp T.f_are_trucks.b tk ?_
      refine pda_cons ?_ ?_
      · exact pd_var 0
      · exact pda_nil
    · refine pda_cons ?_ ?_
      · exact pd_str
      · exact pda_nil
  · refine pdss_cons ?_ ?_
    · refine pds_expr ?_
      refine pd_call (ok_demand T) (hr.mono (by decide)) T.f_demand.g T.f_demand.F.kp T.f_demand.b tk ?_
      refine pda_cons ?_ ?_
      · refine pd_call (ok_is_in T) (hr.mono (by decide)) T.f_is_in.g T.f_is_in.F.kp T.f_is_in.b tk ?_
        refine pda_cons ?_ ?_
        · exact pd_var 1
        · refine pda_cons ?_ ?_
          · exact pd_int
          · refine pda_cons ?_ ?_
            · exact pd_gint T.c_MOST_SPAN.choose_spec
            · exact pda_nil
      · refine pda_cons ?_ ?_
        · exact pd_str
        · exact pda_nil
    · refine pdss_cons ?_ ?_
      · refine pds_expr ?_
        refine pd_call (ok_demand T) (hr.mono (by decide)) T.f_demand.g T.f_demand.F.kp T.f_demand.b tk ?_
        refine pda_cons ?_ ?_
        · refine pd_call (ok_are_fronts T) (hr.mono (by decide)) T.f_are_fronts.g T.f_are_fronts.F.kp T.f_are_fronts.b tk ?_
          refine pda_cons ?_ ?_
          · exact pd_var 0
          · refine pda_cons ?_ ?_
            · exact pd_var 2
            · exact pda_nil
        · refine pda_cons ?_ ?_
          · exact pd_str
          · exact pda_nil
      · refine pdss_one ?_
        refine pds_ret ?_
        refine pd_call (ok_load_of T) (hr.mono (by decide)) T.f_load_of.g T.f_load_of.F.kp T.f_load_of.b tk ?_
        refine pda_cons ?_ ?_
        · exact pd_var 0
        · refine pda_cons ?_ ?_
          · exact pd_var 1
          · refine pda_cons ?_ ?_
            · exact pd_var 2
            · exact pda_nil
theorem ok_best_from (T : Top P K mg) : FnD P w K mg base 2 T.f_best_from.f T.f_best_from.fd ["trucks", "gap", "span"] (sp_best_from T.A) := by
  refine fnDn (N := ["trucks", "gap", "span", "best", "front", "rows", "at", "truck", "behind"]) (ds := ds_best_from T.A) T.f_best_from sc_best_from (fun zs G Q x h => len_best_from h) (fun cdv A outer s H E hr tk => ?_) (fun zs G Q x h => read_best_from h)
  unfold ds_best_from
  refine pdss_cons ?_ ?_
  · refine pds_set 3 sc_best_from.nd ?_
    exact pd_newD
  · refine pdss_cons ?_ ?_
    · refine pds_for (vs := [4]) (passes_of rfl) rfl ?_ ?_ ?_
      · refine pdi_range3 T.n_range ?_
        refine pda_cons ?_ ?_
        · exact pd_var 2
        · refine pda_cons ?_ ?_
          · refine pd_op op_sub opl_sub ?_ ?_
            · refine pd_neg ?_
              exact pd_gint T.c_MOST_LENGTH.choose_spec
            · exact pd_int
          · refine pda_cons ?_ ?_
            · refine pd_neg ?_
              exact pd_int
            · exact pda_nil
      · exact pdg_name 4 sc_best_from.nd
      · refine pdss_cons ?_ ?_
        · refine pds_set 5 sc_best_from.nd ?_
          refine pd_lstM ?_
          refine pda_cons ?_ ?_
          · refine pd_get2 hr.units ?_ ?_ ?_
            · exact pd_var 3
            · refine pd_op opr_add opl_add ?_ ?_
              · exact pd_var 4
              · exact pd_int
            · refine pd_tup ?_
              refine pda_cons ?_ ?_
              · exact pd_int
              · refine pda_cons ?_ ?_
                · refine pd_tup ?_
                  exact pda_nil
                · exact pda_nil
          · exact pda_nil
        · refine pdss_cons ?_ ?_
          · refine pds_for (vs := [6, 7]) (passes_of rfl) rfl ?_ ?_ ?_
            · refine pdi_enum T.n_enumerate ?_
              refine pda_cons ?_ ?_
              · exact pd_var 0
              · exact pda_nil
            · refine pdg_tup rfl ?_
              refine pdgs_cons ?_ ?_
              · exact pdg_name 6 sc_best_from.nd
              · refine pdgs_cons ?_ ?_
                · exact pdg_name 7 sc_best_from.nd
                · exact pdgs_nil
            · refine pdss_cons ?_ ?_
              · refine pds_set 8 sc_best_from.nd ?_
                refine pd_get2 hr.units ?_ ?_ ?_
                · exact pd_var 3
                · refine pd_op opr_add opl_add ?_ ?_
                  · refine pd_op opr_add opl_add ?_ ?_
                    · exact pd_var 4
                    · refine pd_ix ?_ ?_
                      · exact pd_var 7
                      · exact pd_int
                  · exact pd_var 1
                · refine pd_tup ?_
                  refine pda_cons ?_ ?_
                  · exact pd_int
                  · refine pda_cons ?_ ?_
                    · refine pd_tup ?_
                      exact pda_nil
                    · exact pda_nil
              · refine pdss_one ?_
                refine pds_expr ?_
                refine pd_mth PySem.F.plainAttrs_list PySem.F.slot_list_append (by rfl) mt_append mth_append ?_ ?_
                · exact pd_var 5
                · refine pda_cons ?_ ?_
                  · refine pd_tup ?_
                    refine pda_cons ?_ ?_
                    · refine pd_op opr_add opl_add ?_ ?_
                      · refine pd_ix ?_ ?_
                        · exact pd_var 8
                        · exact pd_int
                      · refine pd_call (ok_weight_on T) (hr.mono (by decide)) T.f_weight_on.g T.f_weight_on.F.kp T.f_weight_on.b tk ?_
                        refine pda_cons ?_ ?_
                        · exact pd_var 7
                        · refine pda_cons ?_ ?_
                          · exact pd_var 2
                          · refine pda_cons ?_ ?_
                            · exact pd_var 4
                            · exact pda_nil
                    · refine pda_cons ?_ ?_
                      · refine pd_tup ?_
                        refine pda_cons ?_ ?_
                        · refine pd_tup ?_
                          refine pda_cons ?_ ?_
                          · exact pd_var 6
                          · refine pda_cons ?_ ?_
                            · exact pd_var 4
                            · exact pda_nil
                        · refine pda_star ?_ ?_
                          · refine pd_ix ?_ ?_
                            · exact pd_var 8
                            · exact pd_int
                          · exact pda_nil
                      · exact pda_nil
                  · exact pda_nil
          · refine pdss_one ?_
            refine pds_setD hr.units ?_ ?_ ?_
            · refine pd_callB (cr_maxP rfl hr.units) cll_maxR T.n_max ?_
              refine pda_cons ?_ ?_
              · exact pd_var 5
              · exact pda_nil
            · exact pd_var 3
            · exact pd_var 4
    · refine pdss_one ?_
      refine pds_ret ?_
      exact pd_var 3
theorem ok_heaviest_of (T : Top P K mg) : FnD P w K mg base 3 T.f_heaviest_of.f T.f_heaviest_of.fd ["trucks", "gap", "span"] (sp_heaviest_of T.A) := by
  refine fnDn (N := ["trucks", "gap", "span"]) (ds := ds_heaviest_of T.A) T.f_heaviest_of sc_heaviest_of (fun zs G Q x h => len_heaviest_of h) (fun cdv A outer s H E hr tk => ?_) (fun zs G Q x h => read_heaviest_of h)
  unfold ds_heaviest_of
  refine pdss_one ?_
  refine pds_ret ?_
  refine pd_dix hr.units ?_ ?_
  · refine pd_call (ok_best_from T) (hr.mono (by decide)) T.f_best_from.g T.f_best_from.F.kp T.f_best_from.b tk ?_
    refine pda_cons ?_ ?_
    · exact pd_var 0
    · refine pda_cons ?_ ?_
      · exact pd_var 1
      · refine pda_cons ?_ ?_
        · exact pd_var 2
        · exact pda_nil
  · refine pd_neg ?_
    exact pd_gint T.c_MOST_LENGTH.choose_spec
theorem ok_demand_bridge (T : Top P K mg) : FnD P w K mg base 5 T.f_demand_bridge.f T.f_demand_bridge.fd ["trucks", "gap", "span"] (sp_demand_bridge T.A) := by
  refine fnDn (N := ["trucks", "gap", "span"]) (ds := ds_demand_bridge T.A) T.f_demand_bridge sc_demand_bridge (fun zs G Q x h => len_demand_bridge h) (fun cdv A outer s H E hr tk => ?_) (fun zs G Q x h => read_demand_bridge h)
  unfold ds_demand_bridge
  refine pdss_cons ?_ ?_
  · refine pds_expr ?_
    refine pd_call (ok_demand T) (hr.mono (by decide)) T.f_demand.g T.f_demand.F.kp T.f_demand.b tk ?_
    refine pda_cons ?_ ?_
    · refine pd_call (ok_are_trucks T) (hr.mono (by decide)) T.f_are_trucks.g T.f_are_trucks.F.kp T.f_are_trucks.b tk ?_
      refine pda_cons ?_ ?_
      · exact pd_var 0
      · exact pda_nil
    · refine pda_cons ?_ ?_
      · exact pd_str
      · exact pda_nil
  · refine pdss_cons ?_ ?_
    · refine pds_expr ?_
      refine pd_call (ok_demand T) (hr.mono (by decide)) T.f_demand.g T.f_demand.F.kp T.f_demand.b tk ?_
      refine pda_cons ?_ ?_
      · refine pd_call (ok_is_in T) (hr.mono (by decide)) T.f_is_in.g T.f_is_in.F.kp T.f_is_in.b tk ?_
        refine pda_cons ?_ ?_
        · exact pd_var 1
        · refine pda_cons ?_ ?_
          · exact pd_int
          · refine pda_cons ?_ ?_
            · exact pd_gint T.c_MOST_GAP.choose_spec
            · exact pda_nil
      · refine pda_cons ?_ ?_
        · exact pd_str
        · exact pda_nil
    · refine pdss_one ?_
      refine pds_expr ?_
      refine pd_call (ok_demand T) (hr.mono (by decide)) T.f_demand.g T.f_demand.F.kp T.f_demand.b tk ?_
      refine pda_cons ?_ ?_
      · refine pd_call (ok_is_in T) (hr.mono (by decide)) T.f_is_in.g T.f_is_in.F.kp T.f_is_in.b tk ?_
        refine pda_cons ?_ ?_
        · exact pd_var 2
        · refine pda_cons ?_ ?_
          · exact pd_int
          · refine pda_cons ?_ ?_
            · exact pd_gint T.c_MOST_SPAN.choose_spec
            · exact pda_nil
      · refine pda_cons ?_ ?_
        · exact pd_str
        · exact pda_nil
theorem ok_heaviest (T : Top P K mg) : FnD P w K mg base 6 T.f_heaviest.f T.f_heaviest.fd ["trucks", "gap", "span"] (sp_heaviest T.A) := by
  refine fnDn (N := ["trucks", "gap", "span"]) (ds := ds_heaviest T.A) T.f_heaviest sc_heaviest (fun zs G Q x h => len_heaviest h) (fun cdv A outer s H E hr tk => ?_) (fun zs G Q x h => read_heaviest h)
  unfold ds_heaviest
  refine pdss_cons ?_ ?_
  · refine pds_expr ?_
    refine pd_call (ok_demand_bridge T) (hr.mono (by decide)) T.f_demand_bridge.g T.f_demand_bridge.F.kp T.f_demand_bridge.b tk ?_
    refine pda_cons ?_ ?_
    · exact pd_var 0
    · refine pda_cons ?_ ?_
      · exact pd_var 1
      · refine pda_cons ?_ ?_
        · exact pd_var 2
        · exact pda_nil
  · refine pdss_one ?_
    refine pds_ret ?_
    refine pd_ix ?_ ?_
    · refine pd_call (ok_heaviest_of T) (hr.mono (by decide)) T.f_heaviest_of.g T.f_heaviest_of.F.kp T.f_heaviest_of.b tk ?_
      refine pda_cons ?_ ?_
      · exact pd_var 0
      · refine pda_cons ?_ ?_
        · exact pd_var 1
        · refine pda_cons ?_ ?_
          · exact pd_var 2
          · exact pda_nil
    · exact pd_int
theorem ok_convoy (T : Top P K mg) : FnD P w K mg base 6 T.f_convoy.f T.f_convoy.fd ["trucks", "gap", "span"] (sp_convoy T.A) := by
  refine fnDn (N := ["trucks", "gap", "span"]) (ds := ds_convoy T.A) T.f_convoy sc_convoy (fun zs G Q x h => len_convoy h) (fun cdv A outer s H E hr tk => ?_) (fun zs G Q x h => read_convoy h)
  unfold ds_convoy
  refine pdss_cons ?_ ?_
  · refine pds_expr ?_
    refine pd_call (ok_demand_bridge T) (hr.mono (by decide)) T.f_demand_bridge.g T.f_demand_bridge.F.kp T.f_demand_bridge.b tk ?_
    refine pda_cons ?_ ?_
    · exact pd_var 0
    · refine pda_cons ?_ ?_
      · exact pd_var 1
      · refine pda_cons ?_ ?_
        · exact pd_var 2
        · exact pda_nil
  · refine pdss_one ?_
    refine pds_ret ?_
    refine pd_ix ?_ ?_
    · refine pd_call (ok_heaviest_of T) (hr.mono (by decide)) T.f_heaviest_of.g T.f_heaviest_of.F.kp T.f_heaviest_of.b tk ?_
      refine pda_cons ?_ ?_
      · exact pd_var 0
      · refine pda_cons ?_ ?_
        · exact pd_var 1
        · refine pda_cons ?_ ?_
          · exact pd_var 2
          · exact pda_nil
    · exact pd_int
theorem ok_is_convoy (T : Top P K mg) : FnD P w K mg base 6 T.f_is_convoy.f T.f_is_convoy.fd ["trucks", "gap", "span", "value"] (sp_is_convoy T.A) := by
  refine fnDn (N := ["trucks", "gap", "span", "value", "one", "two"]) (ds := ds_is_convoy T.A) T.f_is_convoy sc_is_convoy (fun zs G Q x h => len_is_convoy h) (fun cdv A outer s H E hr tk => ?_) (fun zs G Q x h => read_is_convoy h)
  unfold ds_is_convoy
  refine pdss_cons ?_ ?_
  · refine pds_expr ?_
    refine pd_call (ok_demand_bridge T) (hr.mono (by decide)) T.f_demand_bridge.g T.f_demand_bridge.F.kp T.f_demand_bridge.b tk ?_
    refine pda_cons ?_ ?_
    · exact pd_var 0
    · refine pda_cons ?_ ?_
      · exact pd_var 1
      · refine pda_cons ?_ ?_
        · exact pd_var 2
        · exact pda_nil
  · refine pdss_cons ?_ ?_
    · refine pds_if ?_ ?_ ?_
      · refine pdt_not ?_
        refine pdt_val ?_
        refine pd_call (ok_are_fronts T) (hr.mono (by decide)) T.f_are_fronts.g T.f_are_fronts.F.kp T.f_are_fronts.b tk ?_
        refine pda_cons ?_ ?_
        · exact pd_var 0
        · refine pda_cons ?_ ?_
          · exact pd_var 3
          · exact pda_nil
      · refine pdss_one ?_
        refine pds_ret ?_
        exact pd_bl
      · exact pdss_nil
    · refine pdss_cons ?_ ?_
      · refine pds_for (vs := [4, 5]) (passes_of rfl) rfl ?_ ?_ ?_
        · refine pdi_zip T.n_zip ?_
          refine pda_cons ?_ ?_
          · exact pd_var 3
          · refine pda_cons ?_ ?_
            · refine pd_slice ?_ ?_ ?_
              · exact pd_var 3
              · refine pdo_some ?_
                exact pd_int
              · exact pdo_none
            · exact pda_nil
        · refine pdg_tup rfl ?_
          refine pdgs_cons ?_ ?_
          · exact pdg_name 4 sc_is_convoy.nd
          · refine pdgs_cons ?_ ?_
            · exact pdg_name 5 sc_is_convoy.nd
            · exact pdgs_nil
        · refine pdss_one ?_
          refine pds_if ?_ ?_ ?_
          · refine pdt_cmp op_lt opl_lt ?_ ?_
            · refine pd_ix ?_ ?_
              · exact pd_var 5
              · exact pd_int
            · refine pd_op opr_add opl_add ?_ ?_
              · refine pd_op opr_add opl_add ?_ ?_
                · refine pd_ix ?_ ?_
                  · exact pd_var 4
                  · exact pd_int
                · refine pd_ix ?_ ?_
                  · refine pd_ix ?_ ?_
                    · exact pd_var 0
                    · refine pd_ix ?_ ?_
                      · exact pd_var 4
                      · exact pd_int
                  · exact pd_int
              · exact pd_var 1
          · refine pdss_one ?_
            refine pds_ret ?_
            exact pd_bl
          · exact pdss_nil
      · refine pdss_one ?_
        refine pds_ret ?_
        refine pd_cmp (op_eqD hr.units) opl_eq ?_ ?_
        · refine pd_call (ok_load_of T) (hr.mono (by decide)) T.f_load_of.g T.f_load_of.F.kp T.f_load_of.b tk ?_
          refine pda_cons ?_ ?_
          · exact pd_var 0
          · refine pda_cons ?_ ?_
            · exact pd_var 2
            · refine pda_cons ?_ ?_
              · exact pd_var 3
              · exact pda_nil
        · refine pd_ix ?_ ?_
          · refine pd_call (ok_heaviest_of T) (hr.mono (by decide)) T.f_heaviest_of.g T.f_heaviest_of.F.kp T.f_heaviest_of.b tk ?_
            refine pda_cons ?_ ?_
            · exact pd_var 0
            · refine pda_cons ?_ ?_
              · exact pd_var 1
              · refine pda_cons ?_ ?_
                · exact pd_var 2
                · exact pda_nil
          · exact pd_int
theorem ok_least_gap (T : Top P K mg) : FnD P w K mg base 5 T.f_least_gap.f T.f_least_gap.fd ["trucks", "span", "limit"] (sp_least_gap T.A) := by
  refine fnDn (N := ["trucks", "span", "limit", "gap"]) (ds := ds_least_gap T.A) T.f_least_gap sc_least_gap (fun zs G Q x h => len_least_gap h) (fun cdv A outer s H E hr tk => ?_) (fun zs G Q x h => read_least_gap h)
  unfold ds_least_gap
  refine pdss_cons ?_ ?_
  · refine pds_expr ?_
    refine pd_call (ok_demand T) (hr.mono (by decide)) T.f_demand.g T.f_demand.F.kp T.f_demand.b tk ?_
    refine pda_cons ?_ ?_
    · refine pd_call (ok_are_trucks T) (hr.mono (by decide)) T.f_are_trucks.g T.f_are_trucks.F.kp T.f_are_trucks.b tk ?_
      refine pda_cons ?_ ?_
      · exact pd_var 0
      · exact pda_nil
    · refine pda_cons ?_ ?_
      · exact pd_str
      · exact pda_nil
  · refine pdss_cons ?_ ?_
    · refine pds_expr ?_
      refine pd_call (ok_demand T) (hr.mono (by decide)) T.f_demand.g T.f_demand.F.kp T.f_demand.b tk ?_
      refine pda_cons ?_ ?_
      · refine pd_call (ok_is_in T) (hr.mono (by decide)) T.f_is_in.g T.f_is_in.F.kp T.f_is_in.b tk ?_
        refine pda_cons ?_ ?_
        · exact pd_var 1
        · refine pda_cons ?_ ?_
          · exact pd_int
          · refine pda_cons ?_ ?_
            · exact pd_gint T.c_MOST_SPAN.choose_spec
            · exact pda_nil
      · refine pda_cons ?_ ?_
        · exact pd_str
        · exact pda_nil
    · refine pdss_cons ?_ ?_
      · refine pds_expr ?_
        refine pd_call (ok_demand T) (hr.mono (by decide)) T.f_demand.g T.f_demand.F.kp T.f_demand.b tk ?_
        refine pda_cons ?_ ?_
        · refine pd_call (ok_is_in T) (hr.mono (by decide)) T.f_is_in.g T.f_is_in.F.kp T.f_is_in.b tk ?_
          refine pda_cons ?_ ?_
          · exact pd_var 2
          · refine pda_cons ?_ ?_
            · exact pd_int
            · refine pda_cons ?_ ?_
              · exact pd_gint T.c_MOST_LIMIT.choose_spec
              · exact pda_nil
        · refine pda_cons ?_ ?_
          · exact pd_str
          · exact pda_nil
      · refine pdss_cons ?_ ?_
        · refine pds_for (vs := [3]) (passes_of rfl) rfl ?_ ?_ ?_
          · refine pdi_range2 T.n_range ?_
            refine pda_cons ?_ ?_
            · exact pd_int
            · refine pda_cons ?_ ?_
              · refine pd_op opr_add opl_add ?_ ?_
                · exact pd_gint T.c_MOST_GAP.choose_spec
                · exact pd_int
              · exact pda_nil
          · exact pdg_name 3 sc_least_gap.nd
          · refine pdss_one ?_
            refine pds_if ?_ ?_ ?_
            · refine pdt_cmp op_le opl_le ?_ ?_
              · refine pd_ix ?_ ?_
                · refine pd_call (ok_heaviest_of T) (hr.mono (by decide)) T.f_heaviest_of.g T.f_heaviest_of.F.kp T.f_heaviest_of.b tk ?_
                  refine pda_cons ?_ ?_
                  · exact pd_var 0
                  · refine pda_cons ?_ ?_
                    · exact pd_var 3
                    · refine pda_cons ?_ ?_
                      · exact pd_var 1
                      · exact pda_nil
                · exact pd_int
              · exact pd_var 2
            · refine pdss_one ?_
              refine pds_ret ?_
              exact pd_var 3
            · exact pdss_nil
        · refine pdss_one ?_
          refine pds_ret ?_
          exact pd_non
theorem ok__law_dice (T : Top P K mg) : FnD P w K mg base 1 T.f__law_dice.f T.f__law_dice.fd ["script", "spot"] (sp__law_dice T.A) := by
  refine fnDn (N := ["script", "spot", "own", "mixed", "cell"]) (ds := ds__law_dice T.A) T.f__law_dice sc__law_dice (fun zs G Q x h => len__law_dice h) (fun cdv A outer s H E hr tk => ?_) (fun zs G Q x h => read__law_dice h)
  unfold ds__law_dice
  refine pdss_cons ?_ ?_
  · refine pds_set 2 sc__law_dice.nd ?_
    refine pd_ifExp ?_ ?_ ?_
    · refine pdt_cmp op_lt opl_lt ?_ ?_
      · exact pd_var 1
      · refine pd_callB call_len cll_len T.n_len ?_
        refine pda_cons ?_ ?_
        · exact pd_var 0
        · exact pda_nil
    · refine pd_ix ?_ ?_
      · exact pd_var 0
      · exact pd_var 1
    · refine pd_op opr_add opl_add ?_ ?_
      · refine pd_op opr_mul opl_mul ?_ ?_
        · exact pd_int
        · exact pd_var 1
      · exact pd_int
  · refine pdss_cons ?_ ?_
    · refine pds_set 3 sc__law_dice.nd ?_
      refine pd_op opr_add opl_add ?_ ?_
      · exact pd_int
      · refine pd_op opr_mul opl_mul ?_ ?_
        · exact pd_int
        · exact pd_var 1
    · refine pdss_cons ?_ ?_
      · refine pds_for (vs := [4]) (passes_of rfl) rfl ?_ ?_ ?_
        · refine pdi_seq ?_
          refine pd_op opr_add opl_add ?_ ?_
          · refine pd_slice ?_ ?_ ?_
            · exact pd_var 0
            · exact pdo_none
            · refine pdo_some ?_
              exact pd_int
          · refine pd_lst ?_
            refine pda_cons ?_ ?_
            · exact pd_var 2
            · exact pda_nil
        · exact pdg_name 4 sc__law_dice.nd
        · refine pdss_one ?_
          refine pds_set 3 sc__law_dice.nd ?_
          refine pd_op op_mod opl_mod ?_ ?_
          · refine pd_callTy call_int1 cll_int1 T.n_int ?_
            refine pda_cons ?_ ?_
            · refine pd_op opr_add opl_add ?_ ?_
              · refine pd_op opr_mul opl_mul ?_ ?_
                · exact pd_var 3
                · exact pd_int
              · refine pd_op op_mod opl_mod ?_ ?_
                · refine pd_callTy call_int1 cll_int1 T.n_int ?_
                  refine pda_cons ?_ ?_
                  · exact pd_var 4
                  · exact pda_nil
                · exact pd_int
            · exact pda_nil
          · exact pd_int
      · refine pdss_one ?_
        refine pds_ret ?_
        refine pd_lstM ?_
        refine pda_cons ?_ ?_
        · refine pd_ifExp ?_ ?_ ?_
          · refine pdt_w ?_
            refine pdw_or ?_ ?_
            · refine pdt_cmp op_lt opl_lt ?_ ?_
              · exact pd_var 2
              · exact pd_int
            · refine pdw_or1 ?_
              refine pdt_cmp op_ge opl_ge ?_ ?_
              · exact pd_var 2
              · refine pd_op op_pow opl_pow ?_ ?_
                · exact pd_int
                · exact pd_int
          · refine pd_callB call_abs cll_abs T.n_abs ?_
            refine pda_cons ?_ ?_
            · exact pd_var 2
            · exact pda_nil
          · exact pd_int
        · refine pda_cons ?_ ?_
          · exact pd_var 3
          · refine pda_cons ?_ ?_
            · exact pd_int
            · exact pda_nil
theorem ok__law_roll (T : Top P K mg) : FnD P w K mg base 1 T.f__law_roll.f T.f__law_roll.fd ["dice", "total"] (sp__law_roll T.A) := by
  refine fnDn (N := ["dice", "total", "found"]) (ds := ds__law_roll T.A) T.f__law_roll sc__law_roll (fun zs G Q x h => len__law_roll h) (fun cdv A outer s H E hr tk => ?_) (fun zs G Q x h => read__law_roll h)
  unfold ds__law_roll
  refine pdss_cons ?_ ?_
  · refine pds_if ?_ ?_ ?_
    · refine pdt_cmp op_gt opl_gt ?_ ?_
      · refine pd_ix ?_ ?_
        · exact pd_var 0
        · exact pd_int
      · exact pd_int
    · refine pdss_cons ?_ ?_
      · refine pds_set 2 sc__law_roll.nd ?_
        refine pd_op op_mod opl_mod ?_ ?_
        · refine pd_callTy call_int1 cll_int1 T.n_int ?_
          refine pda_cons ?_ ?_
          · refine pd_ix ?_ ?_
            · exact pd_var 0
            · exact pd_int
          · exact pda_nil
        · exact pd_var 1
      · refine pdss_cons ?_ ?_
        · refine pds_setL ?_ ?_ ?_
          · refine pd_op op_fdiv opl_fdiv ?_ ?_
            · refine pd_ix ?_ ?_
              · exact pd_var 0
              · exact pd_int
            · exact pd_var 1
          · exact pd_var 0
          · exact pd_int
        · refine pdss_one ?_
          refine pds_ret ?_
          exact pd_var 2
    · exact pdss_nil
  · refine pdss_cons ?_ ?_
    · refine pds_setL ?_ ?_ ?_
      · refine pd_op opr_add opl_add ?_ ?_
        · refine pd_ix ?_ ?_
          · exact pd_var 0
          · exact pd_int
        · exact pd_int
      · exact pd_var 0
      · exact pd_int
    · refine pdss_cons ?_ ?_
      · refine pds_setL ?_ ?_ ?_
        · refine pd_op op_mod opl_mod ?_ ?_
          · refine pd_callTy call_int1 cll_int1 T.n_int ?_
            refine pda_cons ?_ ?_
            · refine pd_op opr_add opl_add ?_ ?_
              · refine pd_op opr_add opl_add ?_ ?_
                · refine pd_op opr_mul opl_mul ?_ ?_
                  · refine pd_ix ?_ ?_
                    · exact pd_var 0
                    · exact pd_int
                  · exact pd_int
                · refine pd_op opr_mul opl_mul ?_ ?_
                  · refine pd_op opr_mul opl_mul ?_ ?_
                    · refine pd_ix ?_ ?_
                      · exact pd_var 0
                      · exact pd_int
                    · refine pd_ix ?_ ?_
                      · exact pd_var 0
                      · exact pd_int
                  · exact pd_int
              · exact pd_int
            · exact pda_nil
          · exact pd_int
        · exact pd_var 0
        · exact pd_int
      · refine pdss_one ?_
        refine pds_ret ?_
        refine pd_op op_mod opl_mod ?_ ?_
        · refine pd_callTy call_int1 cll_int1 T.n_int ?_
          refine pda_cons ?_ ?_
          · refine pd_op op_fdiv opl_fdiv ?_ ?_
            · refine pd_ix ?_ ?_
              · exact pd_var 0
              · exact pd_int
            · exact pd_int
          · exact pda_nil
        · exact pd_var 1
theorem ok__law_pick (T : Top P K mg) : FnD P w K mg base 2 T.f__law_pick.f T.f__law_pick.fd ["dice", "things"] (sp__law_pick T.A) := by
  refine fnDn (N := ["dice", "things"]) (ds := ds__law_pick T.A) T.f__law_pick sc__law_pick (fun zs G Q x h => len__law_pick h) (fun cdv A outer s H E hr tk => ?_) (fun zs G Q x h => read__law_pick h)
  unfold ds__law_pick
  refine pdss_one ?_
  refine pds_ret ?_
  refine pd_ix ?_ ?_
  · exact pd_var 1
  · refine pd_call (ok__law_roll T) (hr.mono (by decide)) T.f__law_roll.g T.f__law_roll.F.kp T.f__law_roll.b tk ?_
    refine pda_cons ?_ ?_
    · exact pd_var 0
    · refine pda_cons ?_ ?_
      · refine pd_callB call_len cll_len T.n_len ?_
        refine pda_cons ?_ ?_
        · exact pd_var 1
        · exact pda_nil
      · exact pda_nil
theorem ok__law_on (T : Top P K mg) : FnD P w K mg base 1 T.f__law_on.f T.f__law_on.fd ["truck", "span", "front"] (sp__law_on T.A) := by
  refine fnDn (N := ["truck", "span", "front", "place", "weight"]) (ds := ds__law_on T.A) T.f__law_on sc__law_on (fun zs G Q x h => len__law_on h) (fun cdv A outer s H E hr tk => ?_) (fun zs G Q x h => read__law_on h)
  unfold ds__law_on
  refine pdss_one ?_
  refine pds_ret ?_
  refine pd_callB (cr_sum rfl) cll_sum T.n_sum ?_
  refine pda_cons ?_ ?_
  · refine pd_lc [("place", 3), ("weight", 4)] rfl sc__law_on.nd ?_ (blkOk_by (by first | rfl | with_unfolding_all rfl)) (fun sb Hb Cb clb fpb => ?_) (fun sb Hb Cb clb fpb => ?_) (fun sb Hb Cb clb fpb => ?_)
    · refine pdi_seq ?_
      refine pd_ix ?_ ?_
      · exact pd_var 0
      · exact pd_int
    · refine pdg_tup rfl ?_
      refine pdgs_cons ?_ ?_
      · exact pdg_name 3 sc__law_on.nd
      · refine pdgs_cons ?_ ?_
        · exact pdg_name 4 sc__law_on.nd
        · exact pdgs_nil
    · refine pdts_one ?_
      refine pdt_w ?_
      refine pdw_and ?_ ?_
      · refine pdt_cmp op_le opl_le ?_ ?_
        · exact pd_int
        · refine pd_op opr_add opl_add ?_ ?_
          · exact pd_var 2
          · exact pd_var 3
      · refine pdw_and1 ?_
        refine pdt_cmp op_le opl_le ?_ ?_
        · refine pd_op opr_add opl_add ?_ ?_
          · exact pd_var 2
          · exact pd_var 3
        · exact pd_var 1
    · exact pd_var 4
  · exact pda_nil
theorem ok__law_most (T : Top P K mg) : FnD P w K mg base 2 T.f__law_most.f T.f__law_most.fd ["trucks", "gap", "span"] (sp__law_most T.A) := by
  refine fnDn (N := ["trucks", "gap", "span", "best", "back", "front", "here", "truck"]) (ds := ds__law_most T.A) T.f__law_most sc__law_most (fun zs G Q x h => len__law_most h) (fun cdv A outer s H E hr tk => ?_) (fun zs G Q x h => read__law_most h)
  unfold ds__law_most
  refine pdss_cons ?_ ?_
  · refine pds_set 3 sc__law_most.nd ?_
    exact pd_newD
  · refine pdss_cons ?_ ?_
    · refine pds_for (vs := [4]) (passes_of rfl) rfl ?_ ?_ ?_
      · refine pdi_range1 T.n_range ?_
        refine pda_cons ?_ ?_
        · refine pd_op opr_add opl_add ?_ ?_
          · exact pd_var 2
          · exact pd_int
        · exact pda_nil
      · exact pdg_name 4 sc__law_most.nd
      · refine pdss_cons ?_ ?_
        · refine pds_set 5 sc__law_most.nd ?_
          refine pd_op op_sub opl_sub ?_ ?_
          · exact pd_var 2
          · exact pd_var 4
        · refine pdss_cons ?_ ?_
          · refine pds_set 6 sc__law_most.nd ?_
            refine pd_get2 hr.units ?_ ?_ ?_
            · exact pd_var 3
            · refine pd_op opr_add opl_add ?_ ?_
              · exact pd_var 5
              · exact pd_int
            · exact pd_int
          · refine pdss_cons ?_ ?_
            · refine pds_for (vs := [7]) (passes_of rfl) rfl ?_ ?_ ?_
              · refine pdi_seq ?_
                exact pd_var 0
              · exact pdg_name 7 sc__law_most.nd
              · refine pdss_one ?_
                refine pds_set 6 sc__law_most.nd ?_
                refine pd_callB (call_max2 rfl) cll_max2 T.n_max ?_
                refine pda_cons ?_ ?_
                · exact pd_var 6
                · refine pda_cons ?_ ?_
                  · refine pd_op opr_add opl_add ?_ ?_
                    · refine pd_call (ok__law_on T) (hr.mono (by decide)) T.f__law_on.g T.f__law_on.F.kp T.f__law_on.b tk ?_
                      refine pda_cons ?_ ?_
                      · exact pd_var 7
                      · refine pda_cons ?_ ?_
                        · exact pd_var 2
                        · refine pda_cons ?_ ?_
                          · exact pd_var 5
                          · exact pda_nil
                    · refine pd_get2 hr.units ?_ ?_ ?_
                      · exact pd_var 3
                      · refine pd_op opr_add opl_add ?_ ?_
                        · refine pd_op opr_add opl_add ?_ ?_
                          · exact pd_var 5
                          · refine pd_ix ?_ ?_
                            · exact pd_var 7
                            · exact pd_int
                        · exact pd_var 1
                      · exact pd_int
                  · exact pda_nil
            · refine pdss_one ?_
              refine pds_setD hr.units ?_ ?_ ?_
              · exact pd_var 6
              · exact pd_var 3
              · exact pd_var 5
    · refine pdss_one ?_
      refine pds_ret ?_
      refine pd_callB (cr_max rfl) cll_maxL T.n_max ?_
      refine pda_cons ?_ ?_
      · refine pd_lc [("front", 5)] rfl sc__law_most.nd ?_ (blkOk_by (by first | rfl | with_unfolding_all rfl)) (fun sb Hb Cb clb fpb => ?_) (fun sb Hb Cb clb fpb => ?_) (fun sb Hb Cb clb fpb => ?_)
        · refine pdi_keys ?_
          exact pd_var 3
        · exact pdg_name 5 sc__law_most.nd
        · exact pdts_nil
        · refine pd_dix hr.units ?_ ?_
          · exact pd_var 3
          · exact pd_var 5
      · exact pda_nil
theorem ok__law_by_search (T : Top P K mg) : FnD P w K mg base 2 T.f__law_by_search.f T.f__law_by_search.fd ["trucks", "gap", "span"] (sp__law_by_search T.A) := by
  refine fnDn (N := ["trucks", "gap", "span", "rows", "best", "turn", "longer", "least", "weight", "truck", "front", "more"]) (ds := ds__law_by_search T.A) T.f__law_by_search sc__law_by_search (fun zs G Q x h => len__law_by_search h) (fun cdv A outer s H E hr tk => ?_) (fun zs G Q x h => read__law_by_search h)
  unfold ds__law_by_search
  refine pdss_cons ?_ ?_
  · refine pds_par 3 4 rfl sc__law_by_search.nd ?_ ?_
    · refine pd_lst ?_
      refine pda_cons ?_ ?_
      · refine pd_tup ?_
        refine pda_cons ?_ ?_
        · refine pd_neg ?_
          exact pd_int
        · refine pda_cons ?_ ?_
          · exact pd_int
          · exact pda_nil
      · exact pda_nil
    · exact pd_int
  · refine pdss_cons ?_ ?_
    · refine pds_for (vs := [5]) (passes_of rfl) rfl ?_ ?_ ?_
      · refine pdi_range1 T.n_range ?_
        refine pda_cons ?_ ?_
        · exact pd_int
        · exact pda_nil
      · exact pdg_name 5 sc__law_by_search.nd
      · refine pdss_cons ?_ ?_
        · refine pds_set 6 sc__law_by_search.nd ?_
          exact pd_newT
        · refine pdss_cons ?_ ?_
          · refine pds_for (vs := [7, 8]) (passes_of rfl) rfl ?_ ?_ ?_
            · refine pdi_seq ?_
              exact pd_var 3
            · refine pdg_tup rfl ?_
              refine pdgs_cons ?_ ?_
              · exact pdg_name 7 sc__law_by_search.nd
              · refine pdgs_cons ?_ ?_
                · exact pdg_name 8 sc__law_by_search.nd
                · exact pdgs_nil
            · refine pdss_one ?_
              refine pds_for (vs := [9]) (passes_of rfl) rfl ?_ ?_ ?_
              · refine pdi_seq ?_
                exact pd_var 0
              · exact pdg_name 9 sc__law_by_search.nd
              · refine pdss_one ?_
                refine pds_for (vs := [10]) (passes_of rfl) rfl ?_ ?_ ?_
                · refine pdi_range2 T.n_range ?_
                  refine pda_cons ?_ ?_
                  · refine pd_callB (call_max2 rfl) cll_max2 T.n_max ?_
                    refine pda_cons ?_ ?_
                    · exact pd_var 7
                    · refine pda_cons ?_ ?_
                      · refine pd_neg ?_
                        refine pd_ix ?_ ?_
                        · exact pd_var 9
                        · exact pd_int
                      · exact pda_nil
                  · refine pda_cons ?_ ?_
                    · refine pd_op opr_add opl_add ?_ ?_
                      · exact pd_var 2
                      · exact pd_int
                    · exact pda_nil
                · exact pdg_name 10 sc__law_by_search.nd
                · refine pdss_cons ?_ ?_
                  · refine pds_set 11 sc__law_by_search.nd ?_
                    refine pd_op opr_add opl_add ?_ ?_
                    · exact pd_var 8
                    · refine pd_call (ok__law_on T) (hr.mono (by decide)) T.f__law_on.g T.f__law_on.F.kp T.f__law_on.b tk ?_
                      refine pda_cons ?_ ?_
                      · exact pd_var 9
                      · refine pda_cons ?_ ?_
                        · exact pd_var 2
                        · refine pda_cons ?_ ?_
                          · exact pd_var 10
                          · exact pda_nil
                  · refine pdss_cons ?_ ?_
                    · refine pds_set 4 sc__law_by_search.nd ?_
                      refine pd_callB (call_max2 rfl) cll_max2 T.n_max ?_
                      refine pda_cons ?_ ?_
                      · exact pd_var 4
                      · refine pda_cons ?_ ?_
                        · exact pd_var 11
                        · exact pda_nil
                    · refine pdss_one ?_
                      refine pds_setT hr.units ?_ ?_ ?_
                      · exact pd_bl
                      · exact pd_var 6
                      · refine pd_tup ?_
                        refine pda_cons ?_ ?_
                        · refine pd_op opr_add opl_add ?_ ?_
                          · refine pd_op opr_add opl_add ?_ ?_
                            · exact pd_var 10
                            · refine pd_ix ?_ ?_
                              · exact pd_var 9
                              · exact pd_int
                          · exact pd_var 1
                        · refine pda_cons ?_ ?_
                          · exact pd_var 11
                          · exact pda_nil
          · refine pdss_cons ?_ ?_
            · refine pds_set 3 sc__law_by_search.nd ?_
              refine pd_callTy (call_listT rfl) cll_listT T.n_list ?_
              refine pda_cons ?_ ?_
              · exact pd_var 6
              · exact pda_nil
            · refine pdss_one ?_
              refine pds_if ?_ ?_ ?_
              · refine pdt_cmp (op_eqD hr.units) opl_eq ?_ ?_
                · exact pd_var 3
                · refine pd_lst ?_
                  exact pda_nil
              · refine pdss_one ?_
                exact pds_break
              · exact pdss_nil
    · refine pdss_one ?_
      refine pds_ret ?_
      exact pd_var 4
theorem ok__law_fronts_right (T : Top P K mg) : FnD P w K mg base 1 T.f__law_fronts_right.f T.f__law_fronts_right.fd ["trucks", "value"] (sp__law_fronts_right T.A) := by
  refine fnDn (N := ["trucks", "value", "one", "part"]) (ds := ds__law_fronts_right T.A) T.f__law_fronts_right sc__law_fronts_right (fun zs G Q x h => len__law_fronts_right h) (fun cdv A outer s H E hr tk => ?_) (fun zs G Q x h => read__law_fronts_right h)
  unfold ds__law_fronts_right
  refine pdss_cons ?_ ?_
  · refine pds_if ?_ ?_ ?_
    · refine pdt_w ?_
      refine pdw_or ?_ ?_
      · refine pdt_not ?_
        refine pdt_val ?_
        refine pd_callB call_isi cll_isi T.n_isinstance ?_
        refine pda_cons ?_ ?_
        · exact pd_var 1
        · refine pda_cons ?_ ?_
          · exact pd_ty T.n_tuple
          · exact pda_nil
      · refine pdw_or1 ?_
        refine pdt_cmp op_gt opl_gt ?_ ?_
        · refine pd_callB call_len cll_len T.n_len ?_
          refine pda_cons ?_ ?_
          · exact pd_var 1
          · exact pda_nil
        · exact pd_int
    · refine pdss_one ?_
      refine pds_ret ?_
      exact pd_bl
    · exact pdss_nil
  · refine pdss_cons ?_ ?_
    · refine pds_for (vs := [2]) (passes_of rfl) rfl ?_ ?_ ?_
      · refine pdi_seq ?_
        exact pd_var 1
      · exact pdg_name 2 sc__law_fronts_right.nd
      · refine pdss_cons ?_ ?_
        · refine pds_if ?_ ?_ ?_
          · refine pdt_w ?_
            refine pdw_or ?_ ?_
            · refine pdt_not ?_
              refine pdt_val ?_
              refine pd_callB call_isi cll_isi T.n_isinstance ?_
              refine pda_cons ?_ ?_
              · exact pd_var 2
              · refine pda_cons ?_ ?_
                · exact pd_ty T.n_tuple
                · exact pda_nil
            · refine pdw_or ?_ ?_
              · refine pdt_cmp (op_neD hr.units) opl_ne ?_ ?_
                · refine pd_callB call_len cll_len T.n_len ?_
                  refine pda_cons ?_ ?_
                  · exact pd_var 2
                  · exact pda_nil
                · exact pd_int
              · refine pdw_or1 ?_
                refine pdt_cmp (op_neD hr.units) opl_ne ?_ ?_
                · refine pd_lc [("part", 3)] rfl sc__law_fronts_right.nd ?_ (blkOk_by (by first | rfl | with_unfolding_all rfl)) (fun sb Hb Cb clb fpb => ?_) (fun sb Hb Cb clb fpb => ?_) (fun sb Hb Cb clb fpb => ?_)
                  · refine pdi_seq ?_
                    exact pd_var 2
                  · exact pdg_name 3 sc__law_fronts_right.nd
                  · refine pdts_one ?_
                    refine pdt_w ?_
                    refine pdw_or ?_ ?_
                    · refine pdt_not ?_
                      refine pdt_val ?_
                      refine pd_callB call_isi cll_isi T.n_isinstance ?_
                      refine pda_cons ?_ ?_
                      · exact pd_var 3
                      · refine pda_cons ?_ ?_
                        · exact pd_ty T.n_int
                        · exact pda_nil
                    · refine pdw_or1 ?_
                      refine pdt_val ?_
                      refine pd_callB call_isi cll_isi T.n_isinstance ?_
                      refine pda_cons ?_ ?_
                      · exact pd_var 3
                      · refine pda_cons ?_ ?_
                        · exact pd_ty T.n_bool
                        · exact pda_nil
                  · exact pd_int
                · refine pd_lst ?_
                  exact pda_nil
          · refine pdss_one ?_
            refine pds_ret ?_
            exact pd_bl
          · exact pdss_nil
        · refine pdss_one ?_
          refine pds_if ?_ ?_ ?_
          · refine pdt_w ?_
            refine pdw_or ?_ ?_
            · refine pdt_not ?_
              refine pdt_chain op_le opl_le op_lt opl_lt ?_ ?_ ?_
              · exact pd_int
              · refine pd_ix ?_ ?_
                · exact pd_var 2
                · exact pd_int
              · refine pd_callB call_len cll_len T.n_len ?_
                refine pda_cons ?_ ?_
                · exact pd_var 0
                · exact pda_nil
            · refine pdw_or1 ?_
              refine pdt_not ?_
              refine pdt_chain op_le opl_le op_le opl_le ?_ ?_ ?_
              · refine pd_neg ?_
                exact pd_int
              · refine pd_ix ?_ ?_
                · exact pd_var 2
                · exact pd_int
              · exact pd_int
          · refine pdss_one ?_
            refine pds_ret ?_
            exact pd_bl
          · exact pdss_nil
    · refine pdss_one ?_
      refine pds_ret ?_
      exact pd_bl
theorem ok__law_is_due (T : Top P K mg) : FnD P w K mg base 2 T.f__law_is_due.f T.f__law_is_due.fd ["trucks", "gap", "span", "value", "most"] (sp__law_is_due T.A) := by
  refine fnDn (N := ["trucks", "gap", "span", "value", "most", "at", "truck", "front"]) (ds := ds__law_is_due T.A) T.f__law_is_due sc__law_is_due (fun zs G Q x h => len__law_is_due h) (fun cdv A outer s H E hr tk => ?_) (fun zs G Q x h => read__law_is_due h)
  unfold ds__law_is_due
  refine pdss_cons ?_ ?_
  · refine pds_if ?_ ?_ ?_
    · refine pdt_not ?_
      refine pdt_val ?_
      refine pd_call (ok__law_fronts_right T) (hr.mono (by decide)) T.f__law_fronts_right.g T.f__law_fronts_right.F.kp T.f__law_fronts_right.b tk ?_
      refine pda_cons ?_ ?_
      · exact pd_var 0
      · refine pda_cons ?_ ?_
        · exact pd_var 3
        · exact pda_nil
    · refine pdss_one ?_
      refine pds_ret ?_
      exact pd_bl
    · exact pdss_nil
  · refine pdss_cons ?_ ?_
    · refine pds_if ?_ ?_ ?_
      · refine pdt_cmp (op_neD hr.units) opl_ne ?_ ?_
        · refine pd_lc [("at", 5)] rfl sc__law_is_due.nd ?_ (blkOk_by (by first | rfl | with_unfolding_all rfl)) (fun sb Hb Cb clb fpb => ?_) (fun sb Hb Cb clb fpb => ?_) (fun sb Hb Cb clb fpb => ?_)
          · refine pdi_range2 T.n_range ?_
            refine pda_cons ?_ ?_
            · exact pd_int
            · refine pda_cons ?_ ?_
              · refine pd_callB call_len cll_len T.n_len ?_
                refine pda_cons ?_ ?_
                · exact pd_var 3
                · exact pda_nil
              · exact pda_nil
          · exact pdg_name 5 sc__law_is_due.nd
          · refine pdts_one ?_
            refine pdt_cmp op_lt opl_lt ?_ ?_
            · refine pd_ix ?_ ?_
              · refine pd_ix ?_ ?_
                · exact pd_var 3
                · exact pd_var 5
              · exact pd_int
            · refine pd_op opr_add opl_add ?_ ?_
              · refine pd_op opr_add opl_add ?_ ?_
                · refine pd_ix ?_ ?_
                  · refine pd_ix ?_ ?_
                    · exact pd_var 3
                    · refine pd_op op_sub opl_sub ?_ ?_
                      · exact pd_var 5
                      · exact pd_int
                  · exact pd_int
                · refine pd_ix ?_ ?_
                  · refine pd_ix ?_ ?_
                    · exact pd_var 0
                    · refine pd_ix ?_ ?_
                      · refine pd_ix ?_ ?_
                        · exact pd_var 3
                        · refine pd_op op_sub opl_sub ?_ ?_
                          · exact pd_var 5
                          · exact pd_int
                      · exact pd_int
                  · exact pd_int
              · exact pd_var 1
          · exact pd_var 5
        · refine pd_lst ?_
          exact pda_nil
      · refine pdss_one ?_
        refine pds_ret ?_
        exact pd_bl
      · exact pdss_nil
    · refine pdss_one ?_
      refine pds_ret ?_
      refine pd_cmp (op_eqD hr.units) opl_eq ?_ ?_
      · refine pd_callB (cr_sum rfl) cll_sum T.n_sum ?_
        refine pda_cons ?_ ?_
        · refine pd_lc [("truck", 6), ("front", 7)] rfl sc__law_is_due.nd ?_ (blkOk_by (by first | rfl | with_unfolding_all rfl)) (fun sb Hb Cb clb fpb => ?_) (fun sb Hb Cb clb fpb => ?_) (fun sb Hb Cb clb fpb => ?_)
          · refine pdi_seq ?_
            exact pd_var 3
          · refine pdg_tup rfl ?_
            refine pdgs_cons ?_ ?_
            · exact pdg_name 6 sc__law_is_due.nd
            · refine pdgs_cons ?_ ?_
              · exact pdg_name 7 sc__law_is_due.nd
              · exact pdgs_nil
          · exact pdts_nil
          · refine pd_call (ok__law_on T) (hr.mono (by decide)) T.f__law_on.g T.f__law_on.F.kp T.f__law_on.b L2.takes0 ?_
            refine pda_cons ?_ ?_
            · refine pd_ix ?_ ?_
              · exact pd_var 0
              · exact pd_var 6
            · refine pda_cons ?_ ?_
              · exact pd_var 2
              · refine pda_cons ?_ ?_
                · exact pd_var 7
                · exact pda_nil
        · exact pda_nil
      · exact pd_var 4
theorem ok__law_truck (T : Top P K mg) : FnD P w K mg base 3 T.f__law_truck.f T.f__law_truck.fd ["dice", "far"] (sp__law_truck T.A) := by
  refine fnDn (N := ["dice", "far", "length", "axle", "places", "place"]) (ds := ds__law_truck T.A) T.f__law_truck sc__law_truck (fun zs G Q x h => len__law_truck h) (fun cdv A outer s H E hr tk => ?_) (fun zs G Q x h => read__law_truck h)
  unfold ds__law_truck
  refine pdss_cons ?_ ?_
  · refine pds_set 2 sc__law_truck.nd ?_
    refine pd_op opr_add opl_add ?_ ?_
    · exact pd_int
    · refine pd_call (ok__law_roll T) (hr.mono (by decide)) T.f__law_roll.g T.f__law_roll.F.kp T.f__law_roll.b tk ?_
      refine pda_cons ?_ ?_
      · exact pd_var 0
      · refine pda_cons ?_ ?_
        · exact pd_var 1
        · exact pda_nil
  · refine pdss_cons ?_ ?_
    · refine pds_set 4 sc__law_truck.nd ?_
      refine pd_sortSetL rfl T.n_sorted T.n_set ?_
      refine pd_lc [("axle", 3)] rfl sc__law_truck.nd ?_ (blkOk_by (by first | rfl | with_unfolding_all rfl)) (fun sb Hb Cb clb fpb => ?_) (fun sb Hb Cb clb fpb => ?_) (fun sb Hb Cb clb fpb => ?_)
      · refine pdi_range1 T.n_range ?_
        refine pda_cons ?_ ?_
        · refine pd_op opr_add opl_add ?_ ?_
          · exact pd_int
          · refine pd_call (ok__law_roll T) (hr.mono (by decide)) T.f__law_roll.g T.f__law_roll.F.kp T.f__law_roll.b tk ?_
            refine pda_cons ?_ ?_
            · exact pd_var 0
            · refine pda_cons ?_ ?_
              · exact pd_int
              · exact pda_nil
        · exact pda_nil
      · exact pdg_name 3 sc__law_truck.nd
      · exact pdts_nil
      · refine pd_call (ok__law_roll T) (hr.mono (by decide)) T.f__law_roll.g T.f__law_roll.F.kp T.f__law_roll.b L2.takes0 ?_
        refine pda_cons ?_ ?_
        · exact pd_var 0
        · refine pda_cons ?_ ?_
          · refine pd_op opr_add opl_add ?_ ?_
            · exact pd_var 2
            · exact pd_int
          · exact pda_nil
    · refine pdss_one ?_
      refine pds_ret ?_
      refine pd_tup ?_
      refine pda_cons ?_ ?_
      · exact pd_var 2
      · refine pda_cons ?_ ?_
        · refine pd_callTy call_tuple_of cll_tuple T.n_tuple ?_
          refine pda_cons ?_ ?_
          · refine pd_lc [("place", 5)] rfl sc__law_truck.nd ?_ (blkOk_by (by first | rfl | with_unfolding_all rfl)) (fun sb Hb Cb clb fpb => ?_) (fun sb Hb Cb clb fpb => ?_) (fun sb Hb Cb clb fpb => ?_)
            · refine pdi_seq ?_
              exact pd_var 4
            · exact pdg_name 5 sc__law_truck.nd
            · exact pdts_nil
            · refine pd_tup ?_
              refine pda_cons ?_ ?_
              · exact pd_var 5
              · refine pda_cons ?_ ?_
                · refine pd_op opr_add opl_add ?_ ?_
                  · exact pd_int
                  · refine pd_call (ok__law_pick T) (hr.mono (by decide)) T.f__law_pick.g T.f__law_pick.F.kp T.f__law_pick.b L2.takes0 ?_
                    refine pda_cons ?_ ?_
                    · exact pd_var 0
                    · refine pda_cons ?_ ?_
                      · refine pd_lst ?_
                        refine pda_cons ?_ ?_
                        · exact pd_int
                        · refine pda_cons ?_ ?_
                          · exact pd_int
                          · refine pda_cons ?_ ?_
                            · refine pd_call (ok__law_roll T) (hr.mono (by decide)) T.f__law_roll.g T.f__law_roll.F.kp T.f__law_roll.b L2.takes0 ?_
                              refine pda_cons ?_ ?_
                              · exact pd_var 0
                              · refine pda_cons ?_ ?_
                                · exact pd_int
                                · exact pda_nil
                            · exact pda_nil
                      · exact pda_nil
                · exact pda_nil
          · exact pda_nil
        · exact pda_nil
theorem ok__law_drawn (T : Top P K mg) : FnD P w K mg base 3 T.f__law_drawn.f T.f__law_drawn.fd ["dice", "trucks", "gap"] (sp__law_drawn T.A) := by
  refine fnDn (N := ["dice", "trucks", "gap", "found", "front", "turn", "at"]) (ds := ds__law_drawn T.A) T.f__law_drawn sc__law_drawn (fun zs G Q x h => len__law_drawn h) (fun cdv A outer s H E hr tk => ?_) (fun zs G Q x h => read__law_drawn h)
  unfold ds__law_drawn
  refine pdss_cons ?_ ?_
  · refine pds_par 3 4 rfl sc__law_drawn.nd ?_ ?_
    · refine pd_lstM ?_
      exact pda_nil
    · refine pd_op op_sub opl_sub ?_ ?_
      · refine pd_call (ok__law_roll T) (hr.mono (by decide)) T.f__law_roll.g T.f__law_roll.F.kp T.f__law_roll.b tk ?_
        refine pda_cons ?_ ?_
        · exact pd_var 0
        · refine pda_cons ?_ ?_
          · exact pd_int
          · exact pda_nil
      · exact pd_int
  · refine pdss_cons ?_ ?_
    · refine pds_for (vs := [5]) (passes_of rfl) rfl ?_ ?_ ?_
      · refine pdi_range1 T.n_range ?_
        refine pda_cons ?_ ?_
        · exact pd_int
        · exact pda_nil
      · exact pdg_name 5 sc__law_drawn.nd
      · refine pdss_cons ?_ ?_
        · refine pds_set 6 sc__law_drawn.nd ?_
          refine pd_call (ok__law_roll T) (hr.mono (by decide)) T.f__law_roll.g T.f__law_roll.F.kp T.f__law_roll.b tk ?_
          refine pda_cons ?_ ?_
          · exact pd_var 0
          · refine pda_cons ?_ ?_
            · refine pd_callB call_len cll_len T.n_len ?_
              refine pda_cons ?_ ?_
              · exact pd_var 1
              · exact pda_nil
            · exact pda_nil
        · refine pdss_cons ?_ ?_
          · refine pds_if ?_ ?_ ?_
            · refine pdt_cmp op_le opl_le ?_ ?_
              · exact pd_var 4
              · exact pd_int
            · refine pdss_one ?_
              refine pds_expr ?_
              refine pd_mth PySem.F.plainAttrs_list PySem.F.slot_list_append (by rfl) mt_append mth_append ?_ ?_
              · exact pd_var 3
              · refine pda_cons ?_ ?_
                · refine pd_tup ?_
                  refine pda_cons ?_ ?_
                  · exact pd_var 6
                  · refine pda_cons ?_ ?_
                    · exact pd_var 4
                    · exact pda_nil
                · exact pda_nil
            · exact pdss_nil
          · refine pdss_one ?_
            refine pds_set 4 sc__law_drawn.nd ?_
            refine pd_op opr_add opl_add ?_ ?_
            · refine pd_op opr_add opl_add ?_ ?_
              · refine pd_op opr_add opl_add ?_ ?_
                · exact pd_var 4
                · refine pd_ix ?_ ?_
                  · refine pd_ix ?_ ?_
                    · exact pd_var 1
                    · exact pd_var 6
                  · exact pd_int
              · exact pd_var 2
            · refine pd_call (ok__law_pick T) (hr.mono (by decide)) T.f__law_pick.g T.f__law_pick.F.kp T.f__law_pick.b tk ?_
              refine pda_cons ?_ ?_
              · exact pd_var 0
              · refine pda_cons ?_ ?_
                · refine pd_lst ?_
                  refine pda_cons ?_ ?_
                  · exact pd_int
                  · refine pda_cons ?_ ?_
                    · exact pd_int
                    · refine pda_cons ?_ ?_
                      · exact pd_int
                      · refine pda_cons ?_ ?_
                        · refine pd_call (ok__law_roll T) (hr.mono (by decide)) T.f__law_roll.g T.f__law_roll.F.kp T.f__law_roll.b tk ?_
                          refine pda_cons ?_ ?_
                          · exact pd_var 0
                          · refine pda_cons ?_ ?_
                            · exact pd_int
                            · exact pda_nil
                        · exact pda_nil
                · exact pda_nil
    · refine pdss_one ?_
      refine pds_ret ?_
      refine pd_callTy call_tuple_of cll_tuple T.n_tuple ?_
      refine pda_cons ?_ ?_
      · exact pd_var 3
      · exact pda_nil
theorem ok__law_near (T : Top P K mg) : FnD P w K mg base 3 T.f__law_near.f T.f__law_near.fd ["dice", "value"] (sp__law_near T.A) := by
  refine fnDn (N := ["dice", "value", "at", "by", "truck", "front", "later"]) (ds := ds__law_near T.A) T.f__law_near sc__law_near (fun zs G Q x h => len__law_near h) (fun cdv A outer s H E hr tk => ?_) (fun zs G Q x h => read__law_near h)
  unfold ds__law_near
  refine pdss_cons ?_ ?_
  · refine pds_set 2 sc__law_near.nd ?_
    refine pd_call (ok__law_roll T) (hr.mono (by decide)) T.f__law_roll.g T.f__law_roll.F.kp T.f__law_roll.b tk ?_
    refine pda_cons ?_ ?_
    · exact pd_var 0
    · refine pda_cons ?_ ?_
      · refine pd_op opr_add opl_add ?_ ?_
        · refine pd_callB call_len cll_len T.n_len ?_
          refine pda_cons ?_ ?_
          · exact pd_var 1
          · exact pda_nil
        · exact pd_int
      · exact pda_nil
  · refine pdss_cons ?_ ?_
    · refine pds_set 3 sc__law_near.nd ?_
      refine pd_call (ok__law_pick T) (hr.mono (by decide)) T.f__law_pick.g T.f__law_pick.F.kp T.f__law_pick.b tk ?_
      refine pda_cons ?_ ?_
      · exact pd_var 0
      · refine pda_cons ?_ ?_
        · refine pd_lst ?_
          refine pda_cons ?_ ?_
          · exact pd_int
          · refine pda_cons ?_ ?_
            · refine pd_neg ?_
              exact pd_int
            · refine pda_cons ?_ ?_
              · exact pd_int
              · refine pda_cons ?_ ?_
                · refine pd_neg ?_
                  exact pd_int
                · refine pda_cons ?_ ?_
                  · exact pd_int
                  · exact pda_nil
        · exact pda_nil
    · refine pdss_cons ?_ ?_
      · refine pds_set 6 sc__law_near.nd ?_
        refine pd_op opr_add opl_add ?_ ?_
        · refine pd_slice ?_ ?_ ?_
          · exact pd_var 1
          · exact pdo_none
          · refine pdo_some ?_
            exact pd_var 2
        · refine pd_callTy call_tuple_of cll_tuple T.n_tuple ?_
          refine pda_cons ?_ ?_
          · refine pd_lc [("truck", 4), ("front", 5)] rfl sc__law_near.nd ?_ (blkOk_by (by first | rfl | with_unfolding_all rfl)) (fun sb Hb Cb clb fpb => ?_) (fun sb Hb Cb clb fpb => ?_) (fun sb Hb Cb clb fpb => ?_)
            · refine pdi_seq ?_
              refine pd_slice ?_ ?_ ?_
              · exact pd_var 1
              · refine pdo_some ?_
                exact pd_var 2
              · exact pdo_none
            · refine pdg_tup rfl ?_
              refine pdgs_cons ?_ ?_
              · exact pdg_name 4 sc__law_near.nd
              · refine pdgs_cons ?_ ?_
                · exact pdg_name 5 sc__law_near.nd
                · exact pdgs_nil
            · exact pdts_nil
            · refine pd_tup ?_
              refine pda_cons ?_ ?_
              · exact pd_var 4
              · refine pda_cons ?_ ?_
                · refine pd_op opr_add opl_add ?_ ?_
                  · exact pd_var 5
                  · exact pd_var 3
                · exact pda_nil
          · exact pda_nil
      · refine pdss_one ?_
        refine pds_ret ?_
        refine pd_call (ok__law_pick T) (hr.mono (by decide)) T.f__law_pick.g T.f__law_pick.F.kp T.f__law_pick.b tk ?_
        refine pda_cons ?_ ?_
        · exact pd_var 0
        · refine pda_cons ?_ ?_
          · refine pd_lst ?_
            refine pda_cons ?_ ?_
            · exact pd_var 6
            · refine pda_cons ?_ ?_
              · exact pd_var 6
              · refine pda_cons ?_ ?_
                · refine pd_op opr_add opl_add ?_ ?_
                  · refine pd_slice ?_ ?_ ?_
                    · exact pd_var 1
                    · exact pdo_none
                    · refine pdo_some ?_
                      exact pd_var 2
                  · refine pd_slice ?_ ?_ ?_
                    · exact pd_var 1
                    · refine pdo_some ?_
                      refine pd_op opr_add opl_add ?_ ?_
                      · exact pd_var 2
                      · exact pd_int
                    · exact pdo_none
                · refine pda_cons ?_ ?_
                  · refine pd_revT ?_
                    exact pd_var 1
                  · refine pda_cons ?_ ?_
                    · refine pd_callTy call_list_of cll_list T.n_list ?_
                      refine pda_cons ?_ ?_
                      · exact pd_var 1
                      · exact pda_nil
                    · refine pda_cons ?_ ?_
                      · exact pd_non
                      · refine pda_cons ?_ ?_
                        · refine pd_slice ?_ ?_ ?_
                          · exact pd_var 1
                          · exact pdo_none
                          · refine pdo_some ?_
                            exact pd_var 2
                        · refine pda_cons ?_ ?_
                          · refine pd_op opr_add opl_add ?_ ?_
                            · exact pd_var 1
                            · refine pd_tup ?_
                              refine pda_cons ?_ ?_
                              · exact pd_non
                              · exact pda_nil
                          · refine pda_cons ?_ ?_
                            · refine pd_op opr_add opl_add ?_ ?_
                              · exact pd_var 1
                              · refine pd_tup ?_
                                refine pda_cons ?_ ?_
                                · refine pd_tup ?_
                                  refine pda_cons ?_ ?_
                                  · exact pd_bl
                                  · refine pda_cons ?_ ?_
                                    · exact pd_int
                                    · exact pda_nil
                                · exact pda_nil
                            · exact pda_nil
          · exact pda_nil
theorem ok__law_refuses (T : Top P K mg) (tb_law_refuses : LamX.TabB base mg T.c_law_refuses T.A.t_law_refuses) : FnD P w K mg base 9 T.f__law_refuses.f T.f__law_refuses.fd ["dice", "trucks", "gap", "span"] (sp__law_refuses T.A) := by
  refine fnDc (N := ["dice", "trucks", "gap", "span", "bad", "odd", "wrong", "told"]) (ds := ds__law_refuses T.A) T.f__law_refuses T.e_law_refuses sc__law_refuses (fun zs G Q x h => len__law_refuses h) (fun A outer s H E hr tk => ?_) (fun zs G Q x h => read__law_refuses h)
  unfold ds__law_refuses
  refine pdss_cons ?_ ?_
  · refine pds_set 4 sc__law_refuses.nd ?_
    refine pd_call (ok__law_pick T) (hr.mono (by decide)) T.f__law_pick.g T.f__law_pick.F.kp T.f__law_pick.b tk ?_
    refine pda_cons ?_ ?_
    · exact pd_var 0
    · refine pda_cons ?_ ?_
      · refine pd_lst ?_
        refine pda_cons ?_ ?_
        · exact pd_non
        · refine pda_cons ?_ ?_
          · refine pd_tup ?_
            exact pda_nil
          · refine pda_cons ?_ ?_
            · refine pd_callTy call_list_of cll_list T.n_list ?_
              refine pda_cons ?_ ?_
              · exact pd_var 1
              · exact pda_nil
            · refine pda_cons ?_ ?_
              · refine pd_op opr_mul opl_mul ?_ ?_
                · exact pd_var 1
                · exact pd_int
              · refine pda_cons ?_ ?_
                · refine pd_tup ?_
                  refine pda_cons ?_ ?_
                  · refine pd_tup ?_
                    refine pda_cons ?_ ?_
                    · exact pd_int
                    · refine pda_cons ?_ ?_
                      · refine pd_tup ?_
                        refine pda_cons ?_ ?_
                        · refine pd_tup ?_
                          refine pda_cons ?_ ?_
                          · exact pd_int
                          · refine pda_cons ?_ ?_
                            · exact pd_int
                            · exact pda_nil
                        · exact pda_nil
                      · exact pda_nil
                  · exact pda_nil
                · refine pda_cons ?_ ?_
                  · refine pd_tup ?_
                    refine pda_cons ?_ ?_
                    · refine pd_tup ?_
                      refine pda_cons ?_ ?_
                      · exact pd_int
                      · refine pda_cons ?_ ?_
                        · refine pd_tup ?_
                          refine pda_cons ?_ ?_
                          · refine pd_tup ?_
                            refine pda_cons ?_ ?_
                            · exact pd_int
                            · refine pda_cons ?_ ?_
                              · exact pd_int
                              · exact pda_nil
                          · exact pda_nil
                        · exact pda_nil
                    · exact pda_nil
                  · refine pda_cons ?_ ?_
                    · refine pd_tup ?_
                      refine pda_cons ?_ ?_
                      · refine pd_tup ?_
                        refine pda_cons ?_ ?_
                        · exact pd_int
                        · refine pda_cons ?_ ?_
                          · refine pd_tup ?_
                            exact pda_nil
                          · exact pda_nil
                      · exact pda_nil
                    · refine pda_cons ?_ ?_
                      · refine pd_tup ?_
                        refine pda_cons ?_ ?_
                        · refine pd_tup ?_
                          refine pda_cons ?_ ?_
                          · exact pd_int
                          · refine pda_cons ?_ ?_
                            · refine pd_tup ?_
                              refine pda_cons ?_ ?_
                              · refine pd_tup ?_
                                refine pda_cons ?_ ?_
                                · exact pd_int
                                · refine pda_cons ?_ ?_
                                  · exact pd_int
                                  · exact pda_nil
                              · exact pda_nil
                            · exact pda_nil
                        · exact pda_nil
                      · refine pda_cons ?_ ?_
                        · refine pd_tup ?_
                          refine pda_cons ?_ ?_
                          · refine pd_tup ?_
                            refine pda_cons ?_ ?_
                            · exact pd_int
                            · refine pda_cons ?_ ?_
                              · refine pd_tup ?_
                                refine pda_cons ?_ ?_
                                · refine pd_tup ?_
                                  refine pda_cons ?_ ?_
                                  · exact pd_int
                                  · refine pda_cons ?_ ?_
                                    · exact pd_int
                                    · exact pda_nil
                                · exact pda_nil
                              · exact pda_nil
                          · exact pda_nil
                        · refine pda_cons ?_ ?_
                          · refine pd_tup ?_
                            refine pda_cons ?_ ?_
                            · refine pd_tup ?_
                              refine pda_cons ?_ ?_
                              · exact pd_int
                              · refine pda_cons ?_ ?_
                                · refine pd_tup ?_
                                  refine pda_cons ?_ ?_
                                  · refine pd_tup ?_
                                    refine pda_cons ?_ ?_
                                    · exact pd_int
                                    · refine pda_cons ?_ ?_
                                      · exact pd_int
                                      · exact pda_nil
                                  · refine pda_cons ?_ ?_
                                    · refine pd_tup ?_
                                      refine pda_cons ?_ ?_
                                      · exact pd_int
                                      · refine pda_cons ?_ ?_
                                        · exact pd_int
                                        · exact pda_nil
                                    · exact pda_nil
                                · exact pda_nil
                            · exact pda_nil
                          · exact pda_nil
      · exact pda_nil
  · refine pdss_cons ?_ ?_
    · refine pds_asg (vs := [5, 6]) ?_ ?_
      · refine pd_tup ?_
        refine pda_cons ?_ ?_
        · refine pd_call (ok__law_pick T) (hr.mono (by decide)) T.f__law_pick.g T.f__law_pick.F.kp T.f__law_pick.b tk ?_
          refine pda_cons ?_ ?_
          · exact pd_var 0
          · refine pda_cons ?_ ?_
            · refine pd_lst ?_
              refine pda_cons ?_ ?_
              · exact pd_int
              · refine pda_cons ?_ ?_
                · exact pd_int
                · refine pda_cons ?_ ?_
                  · exact pd_non
                  · refine pda_cons ?_ ?_
                    · exact pd_bl
                    · exact pda_nil
            · exact pda_nil
        · refine pda_cons ?_ ?_
          · refine pd_call (ok__law_pick T) (hr.mono (by decide)) T.f__law_pick.g T.f__law_pick.F.kp T.f__law_pick.b tk ?_
            refine pda_cons ?_ ?_
            · exact pd_var 0
            · refine pda_cons ?_ ?_
              · refine pd_lst ?_
                refine pda_cons ?_ ?_
                · refine pd_neg ?_
                  exact pd_int
                · refine pda_cons ?_ ?_
                  · exact pd_int
                  · refine pda_cons ?_ ?_
                    · exact pd_non
                    · refine pda_cons ?_ ?_
                      · exact pd_bl
                      · exact pda_nil
              · exact pda_nil
          · exact pda_nil
      · refine pdg_tup rfl ?_
        refine pdgs_cons ?_ ?_
        · exact pdg_name 5 sc__law_refuses.nd
        · refine pdgs_cons ?_ ?_
          · exact pdg_name 6 sc__law_refuses.nd
          · exact pdgs_nil
    · refine pdss_cons ?_ ?_
      · refine pds_set 7 sc__law_refuses.nd ?_
        refine pd_lst ?_
        refine pda_cons ?_ ?_
        · refine pd_lamF (k := 6) (Ng := ["call", "e"]) T.f__law_refused low_lamA rfl sc__law_refused rfl (.inl rfl) (fun cdv => gives_a (ef := .name) (n := "e") T.err_BadArgument rfl rfl rfl (by decide) rfl rfl (by decide) (by decide) (fun _ => rfl) (fun _ => rfl) (fun _ => rfl)) tb_law_refuses rfl (hr.mono (by decide)) (LamX.lamS_by (by first | rfl | with_unfolding_all rfl)) rfl (fun _ _ _ _ _ => rfl) (by decide) (by decide) (by decide) (fun Al ol sl Hl El fl cl hr2 tk2 => ?_)
          refine pd_call (ok_heaviest T) (hr2.mono (by decide)) T.f_heaviest.g T.f_heaviest.F.kp T.f_heaviest.b tk2 ?_
          refine pda_cons ?_ ?_
          · exact pd_var 4
          · refine pda_cons ?_ ?_
            · exact pd_var 5
            · refine pda_cons ?_ ?_
              · exact pd_var 6
              · exact pda_nil
        · refine pda_cons ?_ ?_
          · refine pd_lamF (k := 6) (Ng := ["call", "e"]) T.f__law_refused low_lamA rfl sc__law_refused rfl (.inl rfl) (fun cdv => gives_a (ef := .name) (n := "e") T.err_BadArgument rfl rfl rfl (by decide) rfl rfl (by decide) (by decide) (fun _ => rfl) (fun _ => rfl) (fun _ => rfl)) tb_law_refuses rfl (hr.mono (by decide)) (LamX.lamS_by (by first | rfl | with_unfolding_all rfl)) rfl (fun _ _ _ _ _ => rfl) (by decide) (by decide) (by decide) (fun Al ol sl Hl El fl cl hr2 tk2 => ?_)
            refine pd_call (ok_convoy T) (hr2.mono (by decide)) T.f_convoy.g T.f_convoy.F.kp T.f_convoy.b tk2 ?_
            refine pda_cons ?_ ?_
            · exact pd_var 1
            · refine pda_cons ?_ ?_
              · exact pd_var 5
              · refine pda_cons ?_ ?_
                · exact pd_var 6
                · exact pda_nil
          · refine pda_cons ?_ ?_
            · refine pd_lamF (k := 6) (Ng := ["call", "e"]) T.f__law_refused low_lamA rfl sc__law_refused rfl (.inl rfl) (fun cdv => gives_a (ef := .name) (n := "e") T.err_BadArgument rfl rfl rfl (by decide) rfl rfl (by decide) (by decide) (fun _ => rfl) (fun _ => rfl) (fun _ => rfl)) tb_law_refuses rfl (hr.mono (by decide)) (LamX.lamS_by (by first | rfl | with_unfolding_all rfl)) rfl (fun _ _ _ _ _ => rfl) (by decide) (by decide) (by decide) (fun Al ol sl Hl El fl cl hr2 tk2 => ?_)
              refine pd_call (ok_heaviest T) (hr2.mono (by decide)) T.f_heaviest.g T.f_heaviest.F.kp T.f_heaviest.b tk2 ?_
              refine pda_cons ?_ ?_
              · exact pd_var 1
              · refine pda_cons ?_ ?_
                · exact pd_var 2
                · refine pda_cons ?_ ?_
                  · exact pd_var 6
                  · exact pda_nil
            · refine pda_cons ?_ ?_
              · refine pd_lamF (k := 6) (Ng := ["call", "e"]) T.f__law_refused low_lamA rfl sc__law_refused rfl (.inl rfl) (fun cdv => gives_a (ef := .name) (n := "e") T.err_BadArgument rfl rfl rfl (by decide) rfl rfl (by decide) (by decide) (fun _ => rfl) (fun _ => rfl) (fun _ => rfl)) tb_law_refuses rfl (hr.mono (by decide)) (LamX.lamS_by (by first | rfl | with_unfolding_all rfl)) rfl (fun _ _ _ _ _ => rfl) (by decide) (by decide) (by decide) (fun Al ol sl Hl El fl cl hr2 tk2 => ?_)
                refine pd_call (ok_is_convoy T) (hr2.mono (by decide)) T.f_is_convoy.g T.f_is_convoy.F.kp T.f_is_convoy.b tk2 ?_
                refine pda_cons ?_ ?_
                · exact pd_var 4
                · refine pda_cons ?_ ?_
                  · exact pd_var 2
                  · refine pda_cons ?_ ?_
                    · exact pd_var 3
                    · refine pda_cons ?_ ?_
                      · refine pd_tup ?_
                        exact pda_nil
                      · exact pda_nil
              · exact pda_nil
      · refine pdss_cons ?_ ?_
        · refine pds_set 7 sc__law_refuses.nd ?_
          refine pd_op opr_add opl_add ?_ ?_
          · exact pd_var 7
          · refine pd_lst ?_
            refine pda_cons ?_ ?_
            · refine pd_lamF (k := 6) (Ng := ["call", "e"]) T.f__law_refused low_lamA rfl sc__law_refused rfl (.inl rfl) (fun cdv => gives_a (ef := .name) (n := "e") T.err_BadArgument rfl rfl rfl (by decide) rfl rfl (by decide) (by decide) (fun _ => rfl) (fun _ => rfl) (fun _ => rfl)) tb_law_refuses rfl (hr.mono (by decide)) (LamX.lamS_by (by first | rfl | with_unfolding_all rfl)) rfl (fun _ _ _ _ _ => rfl) (by decide) (by decide) (by decide) (fun Al ol sl Hl El fl cl hr2 tk2 => ?_)
              refine pd_call (ok_load T) (hr2.mono (by decide)) T.f_load.g T.f_load.F.kp T.f_load.b tk2 ?_
              refine pda_cons ?_ ?_
              · exact pd_var 4
              · refine pda_cons ?_ ?_
                · exact pd_var 6
                · refine pda_cons ?_ ?_
                  · exact pd_non
                  · exact pda_nil
            · refine pda_cons ?_ ?_
              · refine pd_lamF (k := 6) (Ng := ["call", "e"]) T.f__law_refused low_lamA rfl sc__law_refused rfl (.inl rfl) (fun cdv => gives_a (ef := .name) (n := "e") T.err_BadArgument rfl rfl rfl (by decide) rfl rfl (by decide) (by decide) (fun _ => rfl) (fun _ => rfl) (fun _ => rfl)) tb_law_refuses rfl (hr.mono (by decide)) (LamX.lamS_by (by first | rfl | with_unfolding_all rfl)) rfl (fun _ _ _ _ _ => rfl) (by decide) (by decide) (by decide) (fun Al ol sl Hl El fl cl hr2 tk2 => ?_)
                refine pd_call (ok_load T) (hr2.mono (by decide)) T.f_load.g T.f_load.F.kp T.f_load.b tk2 ?_
                refine pda_cons ?_ ?_
                · exact pd_var 1
                · refine pda_cons ?_ ?_
                  · exact pd_var 6
                  · refine pda_cons ?_ ?_
                    · exact pd_non
                    · exact pda_nil
              · refine pda_cons ?_ ?_
                · refine pd_lamF (k := 6) (Ng := ["call", "e"]) T.f__law_refused low_lamA rfl sc__law_refused rfl (.inl rfl) (fun cdv => gives_a (ef := .name) (n := "e") T.err_BadArgument rfl rfl rfl (by decide) rfl rfl (by decide) (by decide) (fun _ => rfl) (fun _ => rfl) (fun _ => rfl)) tb_law_refuses rfl (hr.mono (by decide)) (LamX.lamS_by (by first | rfl | with_unfolding_all rfl)) rfl (fun _ _ _ _ _ => rfl) (by decide) (by decide) (by decide) (fun Al ol sl Hl El fl cl hr2 tk2 => ?_)
                  refine pd_call (ok_load T) (hr2.mono (by decide)) T.f_load.g T.f_load.F.kp T.f_load.b tk2 ?_
                  refine pda_cons ?_ ?_
                  · exact pd_var 1
                  · refine pda_cons ?_ ?_
                    · exact pd_var 3
                    · refine pda_cons ?_ ?_
                      · refine pd_tup ?_
                        refine pda_cons ?_ ?_
                        · refine pd_tup ?_
                          refine pda_cons ?_ ?_
                          · exact pd_int
                          · refine pda_cons ?_ ?_
                            · exact pd_int
                            · exact pda_nil
                        · exact pda_nil
                      · exact pda_nil
                · exact pda_nil
        · refine pdss_one ?_
          refine pds_ret ?_
          refine pd_cmp (op_eqD hr.units) opl_eq ?_ ?_
          · refine pd_op opr_add opl_add ?_ ?_
            · exact pd_var 7
            · refine pd_lst ?_
              refine pda_cons ?_ ?_
              · refine pd_lamF (k := 6) (Ng := ["call", "e"]) T.f__law_refused low_lamA rfl sc__law_refused rfl (.inl rfl) (fun cdv => gives_a (ef := .name) (n := "e") T.err_BadArgument rfl rfl rfl (by decide) rfl rfl (by decide) (by decide) (fun _ => rfl) (fun _ => rfl) (fun _ => rfl)) tb_law_refuses rfl (hr.mono (by decide)) (LamX.lamS_by (by first | rfl | with_unfolding_all rfl)) rfl (fun _ _ _ _ _ => rfl) (by decide) (by decide) (by decide) (fun Al ol sl Hl El fl cl hr2 tk2 => ?_)
                refine pd_call (ok_least_gap T) (hr2.mono (by decide)) T.f_least_gap.g T.f_least_gap.F.kp T.f_least_gap.b tk2 ?_
                refine pda_cons ?_ ?_
                · exact pd_var 1
                · refine pda_cons ?_ ?_
                  · exact pd_var 6
                  · refine pda_cons ?_ ?_
                    · exact pd_int
                    · exact pda_nil
              · refine pda_cons ?_ ?_
                · refine pd_lamF (k := 6) (Ng := ["call", "e"]) T.f__law_refused low_lamA rfl sc__law_refused rfl (.inl rfl) (fun cdv => gives_a (ef := .name) (n := "e") T.err_BadArgument rfl rfl rfl (by decide) rfl rfl (by decide) (by decide) (fun _ => rfl) (fun _ => rfl) (fun _ => rfl)) tb_law_refuses rfl (hr.mono (by decide)) (LamX.lamS_by (by first | rfl | with_unfolding_all rfl)) rfl (fun _ _ _ _ _ => rfl) (by decide) (by decide) (by decide) (fun Al ol sl Hl El fl cl hr2 tk2 => ?_)
                  refine pd_call (ok_least_gap T) (hr2.mono (by decide)) T.f_least_gap.g T.f_least_gap.F.kp T.f_least_gap.b tk2 ?_
                  refine pda_cons ?_ ?_
                  · exact pd_var 1
                  · refine pda_cons ?_ ?_
                    · exact pd_var 3
                    · refine pda_cons ?_ ?_
                      · exact pd_int
                      · exact pda_nil
                · exact pda_nil
          · refine pd_lst ?_
            refine pda_cons ?_ ?_
            · exact pd_str
            · refine pda_cons ?_ ?_
              · exact pd_str
              · refine pda_cons ?_ ?_
                · exact pd_str
                · refine pda_cons ?_ ?_
                  · exact pd_str
                  · refine pda_cons ?_ ?_
                    · exact pd_str
                    · refine pda_cons ?_ ?_
                      · exact pd_str
                      · refine pda_cons ?_ ?_
                        · exact pd_str
                        · refine pda_cons ?_ ?_
                          · exact pd_str
                          · refine pda_cons ?_ ?_
                            · exact pd_str
                            · exact pda_nil
theorem ok__law_right (T : Top P K mg) (tb_law_refuses : LamX.TabB base mg T.c_law_refuses T.A.t_law_refuses) : FnD P w K mg base 10 T.f__law_right.f T.f__law_right.fd ["dice"] (sp__law_right T.A) := by
  refine fnDn (N := ["dice", "far", "turn", "trucks", "gap", "span", "most", "found", "some", "truck", "front", "weight", "near", "limit", "one", "good"]) (ds := ds__law_right T.A) T.f__law_right sc__law_right (fun zs G Q x h => len__law_right h) (fun cdv A outer s H E hr tk => ?_) (fun zs G Q x h => read__law_right h)
  unfold ds__law_right
  refine pdss_cons ?_ ?_
  · refine pds_set 1 sc__law_right.nd ?_
    refine pd_call (ok__law_pick T) (hr.mono (by decide)) T.f__law_pick.g T.f__law_pick.F.kp T.f__law_pick.b tk ?_
    refine pda_cons ?_ ?_
    · exact pd_var 0
    · refine pda_cons ?_ ?_
      · refine pd_lst ?_
        refine pda_cons ?_ ?_
        · exact pd_int
        · refine pda_cons ?_ ?_
          · exact pd_int
          · refine pda_cons ?_ ?_
            · exact pd_int
            · exact pda_nil
      · exact pda_nil
  · refine pdss_cons ?_ ?_
    · refine pds_asg (vs := [3, 4, 5]) ?_ ?_
      · refine pd_tup ?_
        refine pda_cons ?_ ?_
        · refine pd_callTy call_tuple_of cll_tuple T.n_tuple ?_
          refine pda_cons ?_ ?_
          · refine pd_lc [("turn", 2)] rfl sc__law_right.nd ?_ (blkOk_by (by first | rfl | with_unfolding_all rfl)) (fun sb Hb Cb clb fpb => ?_) (fun sb Hb Cb clb fpb => ?_) (fun sb Hb Cb clb fpb => ?_)
            · refine pdi_range1 T.n_range ?_
              refine pda_cons ?_ ?_
              · refine pd_op opr_add opl_add ?_ ?_
                · exact pd_int
                · refine pd_call (ok__law_roll T) (hr.mono (by decide)) T.f__law_roll.g T.f__law_roll.F.kp T.f__law_roll.b tk ?_
                  refine pda_cons ?_ ?_
                  · exact pd_var 0
                  · refine pda_cons ?_ ?_
                    · exact pd_int
                    · exact pda_nil
              · exact pda_nil
            · exact pdg_name 2 sc__law_right.nd
            · exact pdts_nil
            · refine pd_call (ok__law_truck T) (hr.mono (by decide)) T.f__law_truck.g T.f__law_truck.F.kp T.f__law_truck.b L2.takes0 ?_
              refine pda_cons ?_ ?_
              · exact pd_var 0
              · refine pda_cons ?_ ?_
                · exact pd_var 1
                · exact pda_nil
          · exact pda_nil
        · refine pda_cons ?_ ?_
          · refine pd_op opr_add opl_add ?_ ?_
            · exact pd_int
            · refine pd_call (ok__law_roll T) (hr.mono (by decide)) T.f__law_roll.g T.f__law_roll.F.kp T.f__law_roll.b tk ?_
              refine pda_cons ?_ ?_
              · exact pd_var 0
              · refine pda_cons ?_ ?_
                · refine pd_call (ok__law_pick T) (hr.mono (by decide)) T.f__law_pick.g T.f__law_pick.F.kp T.f__law_pick.b tk ?_
                  refine pda_cons ?_ ?_
                  · exact pd_var 0
                  · refine pda_cons ?_ ?_
                    · refine pd_lst ?_
                      refine pda_cons ?_ ?_
                      · exact pd_int
                      · refine pda_cons ?_ ?_
                        · exact pd_int
                        · exact pda_nil
                    · exact pda_nil
                · exact pda_nil
          · refine pda_cons ?_ ?_
            · refine pd_call (ok__law_pick T) (hr.mono (by decide)) T.f__law_pick.g T.f__law_pick.F.kp T.f__law_pick.b tk ?_
              refine pda_cons ?_ ?_
              · exact pd_var 0
              · refine pda_cons ?_ ?_
                · refine pd_lst ?_
                  refine pda_cons ?_ ?_
                  · exact pd_int
                  · refine pda_cons ?_ ?_
                    · exact pd_int
                    · refine pda_cons ?_ ?_
                      · exact pd_int
                      · refine pda_cons ?_ ?_
                        · refine pd_call (ok__law_roll T) (hr.mono (by decide)) T.f__law_roll.g T.f__law_roll.F.kp T.f__law_roll.b tk ?_
                          refine pda_cons ?_ ?_
                          · exact pd_var 0
                          · refine pda_cons ?_ ?_
                            · exact pd_int
                            · exact pda_nil
                        · exact pda_nil
                · exact pda_nil
            · exact pda_nil
      · refine pdg_tup rfl ?_
        refine pdgs_cons ?_ ?_
        · exact pdg_name 3 sc__law_right.nd
        · refine pdgs_cons ?_ ?_
          · exact pdg_name 4 sc__law_right.nd
          · refine pdgs_cons ?_ ?_
            · exact pdg_name 5 sc__law_right.nd
            · exact pdgs_nil
    · refine pdss_cons ?_ ?_
      · refine pds_par3 6 7 8 rfl sc__law_right.nd ?_ ?_ ?_
        · refine pd_call (ok__law_most T) (hr.mono (by decide)) T.f__law_most.g T.f__law_most.F.kp T.f__law_most.b tk ?_
          refine pda_cons ?_ ?_
          · exact pd_var 3
          · refine pda_cons ?_ ?_
            · exact pd_var 4
            · refine pda_cons ?_ ?_
              · exact pd_var 5
              · exact pda_nil
        · refine pd_call (ok_convoy T) (hr.mono (by decide)) T.f_convoy.g T.f_convoy.F.kp T.f_convoy.b tk ?_
          refine pda_cons ?_ ?_
          · exact pd_var 3
          · refine pda_cons ?_ ?_
            · exact pd_var 4
            · refine pda_cons ?_ ?_
              · exact pd_var 5
              · exact pda_nil
        · refine pd_call (ok__law_drawn T) (hr.mono (by decide)) T.f__law_drawn.g T.f__law_drawn.F.kp T.f__law_drawn.b tk ?_
          refine pda_cons ?_ ?_
          · exact pd_var 0
          · refine pda_cons ?_ ?_
            · exact pd_var 3
            · refine pda_cons ?_ ?_
              · exact pd_var 4
              · exact pda_nil
      · refine pdss_cons ?_ ?_
        · refine pds_if ?_ ?_ ?_
          · refine pdt_w ?_
            refine pdw_or ?_ ?_
            · refine pdt_cmp (op_neD hr.units) opl_ne ?_ ?_
              · refine pd_call (ok_heaviest T) (hr.mono (by decide)) T.f_heaviest.g T.f_heaviest.F.kp T.f_heaviest.b tk ?_
                refine pda_cons ?_ ?_
                · exact pd_var 3
                · refine pda_cons ?_ ?_
                  · exact pd_var 4
                  · refine pda_cons ?_ ?_
                    · exact pd_var 5
                    · exact pda_nil
              · exact pd_var 6
            · refine pdw_or ?_ ?_
              · refine pdt_cmp (op_neD hr.units) opl_ne ?_ ?_
                · refine pd_callK0 (ok_heaviest T) (hr.mono (by decide)) T.f_heaviest.g T.f_heaviest.F.kp (kb_of (ks := ["span", "gap", "trucks"]) 0 3 [2, 1, 0] T.f_heaviest.F (by simp) (fun _ _ _ _ _ _ us ws hu hw => match us, ws, hu, hw with | [], [_, _, _], _, _ => rfl)) tk ?_
                  refine pdk_cons ?_ ?_
                  · exact pd_var 5
                  · refine pdk_cons ?_ ?_
                    · exact pd_var 4
                    · refine pdk_cons ?_ ?_
                      · exact pd_var 3
                      · exact pdk_nil
                · exact pd_var 6
              · refine pdw_or1 ?_
                refine pdt_not ?_
                refine pdt_val ?_
                refine pd_call (ok__law_is_due T) (hr.mono (by decide)) T.f__law_is_due.g T.f__law_is_due.F.kp T.f__law_is_due.b tk ?_
                refine pda_cons ?_ ?_
                · exact pd_var 3
                · refine pda_cons ?_ ?_
                  · exact pd_var 4
                  · refine pda_cons ?_ ?_
                    · exact pd_var 5
                    · refine pda_cons ?_ ?_
                      · exact pd_var 7
                      · refine pda_cons ?_ ?_
                        · exact pd_var 6
                        · exact pda_nil
          · refine pdss_one ?_
            refine pds_ret ?_
            exact pd_bl
          · exact pdss_nil
        · refine pdss_cons ?_ ?_
          · refine pds_if ?_ ?_ ?_
            · refine pdt_w ?_
              refine pdw_and ?_ ?_
              · refine pdt_cmp (op_eqD hr.units) opl_eq ?_ ?_
                · exact pd_var 1
                · exact pd_int
              · refine pdw_and ?_ ?_
                · refine pdt_cmp op_lt opl_lt ?_ ?_
                  · exact pd_var 5
                  · exact pd_int
                · refine pdw_and1 ?_
                  refine pdt_cmp (op_neD hr.units) opl_ne ?_ ?_
                  · refine pd_call (ok__law_by_search T) (hr.mono (by decide)) T.f__law_by_search.g T.f__law_by_search.F.kp T.f__law_by_search.b tk ?_
                    refine pda_cons ?_ ?_
                    · exact pd_var 3
                    · refine pda_cons ?_ ?_
                      · exact pd_var 4
                      · refine pda_cons ?_ ?_
                        · exact pd_var 5
                        · exact pda_nil
                  · exact pd_var 6
            · refine pdss_one ?_
              refine pds_ret ?_
              exact pd_bl
            · exact pdss_nil
          · refine pdss_cons ?_ ?_
            · refine pds_set 11 sc__law_right.nd ?_
              refine pd_callB (cr_sum rfl) cll_sum T.n_sum ?_
              refine pda_cons ?_ ?_
              · refine pd_lc [("truck", 9), ("front", 10)] rfl sc__law_right.nd ?_ (blkOk_by (by first | rfl | with_unfolding_all rfl)) (fun sb Hb Cb clb fpb => ?_) (fun sb Hb Cb clb fpb => ?_) (fun sb Hb Cb clb fpb => ?_)
                · refine pdi_seq ?_
                  exact pd_var 8
                · refine pdg_tup rfl ?_
                  refine pdgs_cons ?_ ?_
                  · exact pdg_name 9 sc__law_right.nd
                  · refine pdgs_cons ?_ ?_
                    · exact pdg_name 10 sc__law_right.nd
                    · exact pdgs_nil
                · exact pdts_nil
                · refine pd_call (ok__law_on T) (hr.mono (by decide)) T.f__law_on.g T.f__law_on.F.kp T.f__law_on.b L2.takes0 ?_
                  refine pda_cons ?_ ?_
                  · refine pd_ix ?_ ?_
                    · exact pd_var 3
                    · exact pd_var 9
                  · refine pda_cons ?_ ?_
                    · exact pd_var 5
                    · refine pda_cons ?_ ?_
                      · exact pd_var 10
                      · exact pda_nil
              · exact pda_nil
            · refine pdss_cons ?_ ?_
              · refine pds_if ?_ ?_ ?_
                · refine pdt_w ?_
                  refine pdw_or ?_ ?_
                  · refine pdt_cmp (op_neD hr.units) opl_ne ?_ ?_
                    · refine pd_call (ok_load T) (hr.mono (by decide)) T.f_load.g T.f_load.F.kp T.f_load.b tk ?_
                      refine pda_cons ?_ ?_
                      · exact pd_var 3
                      · refine pda_cons ?_ ?_
                        · exact pd_var 5
                        · refine pda_cons ?_ ?_
                          · exact pd_var 8
                          · exact pda_nil
                    · exact pd_var 11
                  · refine pdw_or ?_ ?_
                    · refine pdt_cmp (op_neD hr.units) opl_ne ?_ ?_
                      · refine pd_callK0 (ok_load T) (hr.mono (by decide)) T.f_load.g T.f_load.F.kp (kb_of (ks := ["fronts", "span", "trucks"]) 0 3 [2, 1, 0] T.f_load.F (by simp) (fun _ _ _ _ _ _ us ws hu hw => match us, ws, hu, hw with | [], [_, _, _], _, _ => rfl)) tk ?_
                        refine pdk_cons ?_ ?_
                        · exact pd_var 8
                        · refine pdk_cons ?_ ?_
                          · exact pd_var 5
                          · refine pdk_cons ?_ ?_
                            · exact pd_var 3
                            · exact pdk_nil
                      · exact pd_var 11
                    · refine pdw_or ?_ ?_
                      · refine pdt_cmp op_gt opl_gt ?_ ?_
                        · exact pd_var 11
                        · exact pd_var 6
                      · refine pdw_or1 ?_
                        refine pdt_cmp op_notBl opl_notB ?_ ?_
                        · refine pd_call (ok_is_convoy T) (hr.mono (by decide)) T.f_is_convoy.g T.f_is_convoy.F.kp T.f_is_convoy.b tk ?_
                          refine pda_cons ?_ ?_
                          · exact pd_var 3
                          · refine pda_cons ?_ ?_
                            · exact pd_var 4
                            · refine pda_cons ?_ ?_
                              · exact pd_var 5
                              · refine pda_cons ?_ ?_
                                · exact pd_var 7
                                · exact pda_nil
                        · exact pd_bl
                · refine pdss_one ?_
                  refine pds_ret ?_
                  exact pd_bl
                · exact pdss_nil
              · refine pdss_cons ?_ ?_
                · refine pds_for (vs := [2]) (passes_of rfl) rfl ?_ ?_ ?_
                  · refine pdi_range1 T.n_range ?_
                    refine pda_cons ?_ ?_
                    · exact pd_int
                    · exact pda_nil
                  · exact pdg_name 2 sc__law_right.nd
                  · refine pdss_cons ?_ ?_
                    · refine pds_set 12 sc__law_right.nd ?_
                      refine pd_call (ok__law_near T) (hr.mono (by decide)) T.f__law_near.g T.f__law_near.F.kp T.f__law_near.b tk ?_
                      refine pda_cons ?_ ?_
                      · exact pd_var 0
                      · refine pda_cons ?_ ?_
                        · refine pd_call (ok__law_pick T) (hr.mono (by decide)) T.f__law_pick.g T.f__law_pick.F.kp T.f__law_pick.b tk ?_
                          refine pda_cons ?_ ?_
                          · exact pd_var 0
                          · refine pda_cons ?_ ?_
                            · refine pd_lst ?_
                              refine pda_cons ?_ ?_
                              · exact pd_var 7
                              · refine pda_cons ?_ ?_
                                · exact pd_var 8
                                · exact pda_nil
                            · exact pda_nil
                        · exact pda_nil
                    · refine pdss_one ?_
                      refine pds_if ?_ ?_ ?_
                      · refine pdt_cmp (op_neD hr.units) opl_ne ?_ ?_
                        · refine pd_callK (ok_is_convoy T) (hr.mono (by decide)) T.f_is_convoy.g T.f_is_convoy.F.kp (kb_of (ks := ["value"]) 3 1 [0] T.f_is_convoy.F (by simp) (fun _ _ _ _ _ _ us ws hu hw => match us, ws, hu, hw with | [_, _, _], [_], _, _ => rfl)) tk ?_ ?_
                          · refine pda_cons ?_ ?_
                            · exact pd_var 3
                            · refine pda_cons ?_ ?_
                              · exact pd_var 4
                              · refine pda_cons ?_ ?_
                                · exact pd_var 5
                                · exact pda_nil
                          · refine pdk_cons ?_ ?_
                            · exact pd_var 12
                            · exact pdk_nil
                        · refine pd_call (ok__law_is_due T) (hr.mono (by decide)) T.f__law_is_due.g T.f__law_is_due.F.kp T.f__law_is_due.b tk ?_
                          refine pda_cons ?_ ?_
                          · exact pd_var 3
                          · refine pda_cons ?_ ?_
                            · exact pd_var 4
                            · refine pda_cons ?_ ?_
                              · exact pd_var 5
                              · refine pda_cons ?_ ?_
                                · exact pd_var 12
                                · refine pda_cons ?_ ?_
                                  · exact pd_var 6
                                  · exact pda_nil
                      · refine pdss_one ?_
                        refine pds_ret ?_
                        exact pd_bl
                      · exact pdss_nil
                · refine pdss_cons ?_ ?_
                  · refine pds_set 13 sc__law_right.nd ?_
                    refine pd_callB (call_max2 rfl) cll_max2 T.n_max ?_
                    refine pda_cons ?_ ?_
                    · exact pd_int
                    · refine pda_cons ?_ ?_
                      · refine pd_op opr_add opl_add ?_ ?_
                        · exact pd_var 6
                        · refine pd_call (ok__law_pick T) (hr.mono (by decide)) T.f__law_pick.g T.f__law_pick.F.kp T.f__law_pick.b tk ?_
                          refine pda_cons ?_ ?_
                          · exact pd_var 0
                          · refine pda_cons ?_ ?_
                            · refine pd_lst ?_
                              refine pda_cons ?_ ?_
                              · exact pd_int
                              · refine pda_cons ?_ ?_
                                · refine pd_neg ?_
                                  exact pd_int
                                · refine pda_cons ?_ ?_
                                  · exact pd_int
                                  · refine pda_cons ?_ ?_
                                    · refine pd_neg ?_
                                      exact pd_int
                                    · exact pda_nil
                            · exact pda_nil
                      · exact pda_nil
                  · refine pdss_cons ?_ ?_
                    · refine pds_setLc 15 [("one", 14)] rfl sc__law_right.nd ?_ (blkOk_by (by first | rfl | with_unfolding_all rfl)) (fun sb Hb Cb clb fpb => ?_) (fun sb Hb Cb clb fpb => ?_) (fun sb Hb Cb clb fpb => ?_) (by rfl)
                      · refine pdi_range2 T.n_range ?_
                        refine pda_cons ?_ ?_
                        · exact pd_int
                        · refine pda_cons ?_ ?_
                          · exact pd_int
                          · exact pda_nil
                      · exact pdg_name 14 sc__law_right.nd
                      · refine pdts_one ?_
                        refine pdt_cmp op_le opl_le ?_ ?_
                        · refine pd_call (ok__law_most T) (hr.mono (by decide)) T.f__law_most.g T.f__law_most.F.kp T.f__law_most.b L2.takes0 ?_
                          refine pda_cons ?_ ?_
                          · exact pd_var 3
                          · refine pda_cons ?_ ?_
                            · exact pd_var 14
                            · refine pda_cons ?_ ?_
                              · exact pd_var 5
                              · exact pda_nil
                        · exact pd_var 13
                      · exact pd_var 14
                    · refine pdss_cons ?_ ?_
                      · refine pds_if ?_ ?_ ?_
                        · refine pdt_w ?_
                          refine pdw_or ?_ ?_
                          · refine pdt_cmp (op_neD hr.units) opl_ne ?_ ?_
                            · refine pd_call (ok_least_gap T) (hr.mono (by decide)) T.f_least_gap.g T.f_least_gap.F.kp T.f_least_gap.b tk ?_
                              refine pda_cons ?_ ?_
                              · exact pd_var 3
                              · refine pda_cons ?_ ?_
                                · exact pd_var 5
                                · refine pda_cons ?_ ?_
                                  · exact pd_var 13
                                  · exact pda_nil
                            · refine pd_ifExp ?_ ?_ ?_
                              · refine pdt_cmp (op_neD hr.units) opl_ne ?_ ?_
                                · exact pd_var 15
                                · refine pd_lst ?_
                                  exact pda_nil
                              · refine pd_ix ?_ ?_
                                · exact pd_var 15
                                · exact pd_int
                              · exact pd_non
                          · refine pdw_or1 ?_
                            refine pdt_cmp (op_neD hr.units) opl_ne ?_ ?_
                            · exact pd_var 15
                            · refine pd_lstRg rfl T.n_list T.n_range ?_ ?_
                              · refine pd_op op_sub opl_sub ?_ ?_
                                · exact pd_int
                                · refine pd_callB call_len cll_len T.n_len ?_
                                  refine pda_cons ?_ ?_
                                  · exact pd_var 15
                                  · exact pda_nil
                              · exact pd_int
                        · refine pdss_one ?_
                          refine pds_ret ?_
                          exact pd_bl
                        · exact pdss_nil
                      · refine pdss_one ?_
                        refine pds_ret ?_
                        refine pd_and ?_ ?_
                        · refine pd_or ?_ ?_
                          · refine pd_cmp (op_eqD hr.units) opl_eq ?_ ?_
                            · exact pd_var 5
                            · exact pd_int
                          · refine pd_one ?_
                            refine pd_cmp op_ge opl_ge ?_ ?_
                            · refine pd_call (ok_heaviest T) (hr.mono (by decide)) T.f_heaviest.g T.f_heaviest.F.kp T.f_heaviest.b tk ?_
                              refine pda_cons ?_ ?_
                              · exact pd_var 3
                              · refine pda_cons ?_ ?_
                                · exact pd_var 4
                                · refine pda_cons ?_ ?_
                                  · refine pd_op opr_add opl_add ?_ ?_
                                    · exact pd_var 5
                                    · exact pd_int
                                  · exact pda_nil
                            · exact pd_var 6
                        · refine pd_one ?_
                          refine pd_call (ok__law_refuses T tb_law_refuses) (hr.mono (by decide)) T.f__law_refuses.g T.f__law_refuses.F.kp T.f__law_refuses.b tk ?_
                          refine pda_cons ?_ ?_
                          · exact pd_var 0
                          · refine pda_cons ?_ ?_
                            · exact pd_var 3
                            · refine pda_cons ?_ ?_
                              · exact pd_var 4
                              · refine pda_cons ?_ ?_
                                · exact pd_var 5
                                · exact pda_nil
theorem ok_law (T : Top P K mg) (tb_law_refuses : LamX.TabB base mg T.c_law_refuses T.A.t_law_refuses) : FnD P w K mg base 11 T.f_law.f T.f_law.fd ["script"] (sp_law T.A) := by
  refine fnDn (N := ["script", "spot"]) (ds := ds_law T.A) T.f_law sc_law (fun zs G Q x h => len_law h) (fun cdv A outer s H E hr tk => ?_) (fun zs G Q x h => read_law h)
  unfold ds_law
  refine pdss_cons ?_ ?_
  · refine pds_for (vs := [1]) (passes_of rfl) rfl ?_ ?_ ?_
    · refine pdi_range1 T.n_range ?_
      refine pda_cons ?_ ?_
      · refine pd_callB (call_max2 rfl) cll_max2 T.n_max ?_
        refine pda_cons ?_ ?_
        · exact pd_int
        · refine pda_cons ?_ ?_
          · refine pd_callB (call_min2 rfl) cll_min2 T.n_min ?_
            refine pda_cons ?_ ?_
            · exact pd_int
            · refine pda_cons ?_ ?_
              · refine pd_callB call_len cll_len T.n_len ?_
                refine pda_cons ?_ ?_
                · exact pd_var 0
                · exact pda_nil
              · exact pda_nil
          · exact pda_nil
      · exact pda_nil
    · exact pdg_name 1 sc_law.nd
    · refine pdss_one ?_
      refine pds_if ?_ ?_ ?_
      · refine pdt_not ?_
        refine pdt_val ?_
        refine pd_call (ok__law_right T tb_law_refuses) (hr.mono (by decide)) T.f__law_right.g T.f__law_right.F.kp T.f__law_right.b tk ?_
        refine pda_cons ?_ ?_
        · refine pd_call (ok__law_dice T) (hr.mono (by decide)) T.f__law_dice.g T.f__law_dice.F.kp T.f__law_dice.b tk ?_
          refine pda_cons ?_ ?_
          · exact pd_var 0
          · refine pda_cons ?_ ?_
            · exact pd_var 1
            · exact pda_nil
        · exact pda_nil
      · refine pdss_one ?_
        refine pds_ret ?_
        exact pd_bl
      · exact pdss_nil
  · refine pdss_one ?_
    refine pds_ret ?_
    refine pd_cmp (op_eqD hr.units) opl_eq ?_ ?_
    · refine pd_call (ok_heaviest T) (hr.mono (by decide)) T.f_heaviest.g T.f_heaviest.F.kp T.f_heaviest.b tk ?_
      refine pda_cons ?_ ?_
      · refine pd_tup ?_
        refine pda_cons ?_ ?_
        · refine pd_tup ?_
          refine pda_cons ?_ ?_
          · exact pd_int
          · refine pda_cons ?_ ?_
            · refine pd_tup ?_
              refine pda_cons ?_ ?_
              · refine pd_tup ?_
                refine pda_cons ?_ ?_
                · exact pd_int
                · refine pda_cons ?_ ?_
                  · exact pd_int
                  · exact pda_nil
              · refine pda_cons ?_ ?_
                · refine pd_tup ?_
                  refine pda_cons ?_ ?_
                  · exact pd_int
                  · refine pda_cons ?_ ?_
                    · exact pd_int
                    · exact pda_nil
                · exact pda_nil
            · exact pda_nil
        · exact pda_nil
      · refine pda_cons ?_ ?_
        · exact pd_int
        · refine pda_cons ?_ ?_
          · exact pd_int
          · exact pda_nil
    · exact pd_int
end
end K06
/-! # the first state of a law -/
namespace TD
open PySem PySem.Spec PyProof.Rows L2
/-- the tables told at the start -/
def gTabs : List (Addr × PySem.Str) → GH
  | [] => fun _ => none
  | p :: r => gup (gTabs r) p.1 (.tab p.2)
theorem gTabs_at : ∀ (l : List (Addr × PySem.Str)) (a : Addr) (m : MO), gTabs l a = some m → ∃ p ∈ l, p.1 = a ∧ m = .tab p.2
  | [], _, _, h => by cases h
  | p :: r, a, m, h => by
    unfold gTabs gup at h
    split at h
    · rename_i e
      injection h with h
      exact ⟨p, List.mem_cons_self, e.symm, h.symm⟩
    · obtain ⟨q, h1, h2⟩ := gTabs_at r a m h
      exact ⟨q, List.mem_cons_of_mem _ h1, h2⟩
theorem start_at {K : PySem.W.Frag} {H : Hp} {a : Addr} {ns : List Int} {sp : SpD} {Qd : DK} {Q : VK} {TS : List (Addr × PySem.Str)} (hS : SqL K H a (ns.map V.int)) (hl : ns.length ≤ sizeLine) (hT : ∀ p ∈ TS, H p.1 = some (.tbl #[]))
    (h : sp [.scr ns] (gTabs TS) Qd fun _ _ _ => False) (hQ : ∀ z v G' H', DV K (fun _ => False) G' H' z v → Qd z G' → Q v H') : lowSp K sp [.ref a] H Q fun _ _ _ => False := by
  refine ⟨fun _ => False, [.scr ns], gTabs TS, Qd, fun _ _ _ => False, .cons (.scr ?_ hl) .nil, ⟨fun b m hb => ?_, fun _ z => z.elim⟩, h, fun z v G' H' _ _ d q => hQ z v G' H' d q, fun _ _ _ _ _ _ _ _ _ _ _ z => z⟩
  · rcases hS with hS | hS
    · refine .inl ⟨?_, id, hS⟩
      cases hg : gTabs TS a with
      | none => rfl
      | some m =>
        obtain ⟨p, hp, e, _⟩ := gTabs_at TS a m hg
        have := hT p hp
        rw [e] at this
        rcases hS with hS | ⟨o, hS⟩
        · rw [this] at hS; cases hS
        · rw [this] at hS; cases hS
    · exact .inr hS
  · obtain ⟨p, hp, e, rfl⟩ := gTabs_at TS b m hb
    have e2 := hT p hp
    rw [e] at e2
    exact ⟨#[], e2, trivial, fun pos cv z => by cases z⟩
end TD
namespace K06
open PySem PySem.Spec PyProof.Rows L2 TD
/-! ### the end -/
theorem top_of {w : World} {h : Heap} {K : PySem.W.Frag} {mg : PySem.Str → Option Value} (X : K.In h) (G : h.Ns mainGlobals mg) (c : He.SaysX fa fn [] tf ex w h K) : ∃ T : Top PySem.Challenge.pw_tollkeeper_k06_whole_loads K mg, T.c_law_refuses = (He.cT K ("_law_refuses", none)).1 ∧ T.A.t_law_refuses = (He.cT K ("_law_refuses", none)).2 := by
  have cd : He.SaysD fa fn K := c.t.d
  have m0 := c.more
  obtain ⟨f_is_in⟩ := fn_at (x := "is_in") (st := s_is_in) (ps := ["value", "low", "high"]) X G cd 0 0 rfl rfl (fun _ _ _ _ _ _ us hl => match us, hl with | [_, _, _], _ => rfl)
  obtain ⟨f_is_ascending⟩ := fn_at (x := "is_ascending") (st := s_is_ascending) (ps := ["values"]) X G cd 1 1 rfl rfl (fun _ _ _ _ _ _ us hl => match us, hl with | [_], _ => rfl)
  obtain ⟨f_demand⟩ := fn_at (x := "demand") (st := s_demand) (ps := ["is_good", "name"]) X G cd 2 2 rfl rfl (fun _ _ _ _ _ _ us hl => match us, hl with | [_, _], _ => rfl)
  obtain ⟨f_is_axle⟩ := fn_at (x := "is_axle") (st := s_is_axle) (ps := ["value", "length"]) X G cd 3 3 rfl rfl (fun _ _ _ _ _ _ us hl => match us, hl with | [_, _], _ => rfl)
  obtain ⟨f_is_truck⟩ := fn_at (x := "is_truck") (st := s_is_truck) (ps := ["value"]) X G cd 4 4 rfl rfl (fun _ _ _ _ _ _ us hl => match us, hl with | [_], _ => rfl)
  obtain ⟨f_are_trucks⟩ := fn_at (x := "are_trucks") (st := s_are_trucks) (ps := ["value"]) X G cd 5 5 rfl rfl (fun _ _ _ _ _ _ us hl => match us, hl with | [_], _ => rfl)
  obtain ⟨f_is_place⟩ := fn_at (x := "is_place") (st := s_is_place) (ps := ["trucks", "value"]) X G cd 6 6 rfl rfl (fun _ _ _ _ _ _ us hl => match us, hl with | [_, _], _ => rfl)
  obtain ⟨f_are_fronts⟩ := fn_at (x := "are_fronts") (st := s_are_fronts) (ps := ["trucks", "value"]) X G cd 7 7 rfl rfl (fun _ _ _ _ _ _ us hl => match us, hl with | [_, _], _ => rfl)
  obtain ⟨f_weight_on⟩ := fn_at (x := "weight_on") (st := s_weight_on) (ps := ["truck", "span", "front"]) X G cd 8 8 rfl rfl (fun _ _ _ _ _ _ us hl => match us, hl with | [_, _, _], _ => rfl)
  obtain ⟨f_load_of⟩ := fn_at (x := "load_of") (st := s_load_of) (ps := ["trucks", "span", "fronts"]) X G cd 9 9 rfl rfl (fun _ _ _ _ _ _ us hl => match us, hl with | [_, _, _], _ => rfl)
  obtain ⟨f_load⟩ := fn_at (x := "load") (st := s_load) (ps := ["trucks", "span", "fronts"]) X G cd 10 10 rfl rfl (fun _ _ _ _ _ _ us hl => match us, hl with | [_, _, _], _ => rfl)
  obtain ⟨f_best_from⟩ := fn_at (x := "best_from") (st := s_best_from) (ps := ["trucks", "gap", "span"]) X G cd 11 11 rfl rfl (fun _ _ _ _ _ _ us hl => match us, hl with | [_, _, _], _ => rfl)
  obtain ⟨f_heaviest_of⟩ := fn_at (x := "heaviest_of") (st := s_heaviest_of) (ps := ["trucks", "gap", "span"]) X G cd 12 12 rfl rfl (fun _ _ _ _ _ _ us hl => match us, hl with | [_, _, _], _ => rfl)
  obtain ⟨f_demand_bridge⟩ := fn_at (x := "demand_bridge") (st := s_demand_bridge) (ps := ["trucks", "gap", "span"]) X G cd 13 13 rfl rfl (fun _ _ _ _ _ _ us hl => match us, hl with | [_, _, _], _ => rfl)
  obtain ⟨f_heaviest⟩ := fn_at (x := "heaviest") (st := s_heaviest) (ps := ["trucks", "gap", "span"]) X G cd 14 14 rfl rfl (fun _ _ _ _ _ _ us hl => match us, hl with | [_, _, _], _ => rfl)
  obtain ⟨f_convoy⟩ := fn_at (x := "convoy") (st := s_convoy) (ps := ["trucks", "gap", "span"]) X G cd 15 15 rfl rfl (fun _ _ _ _ _ _ us hl => match us, hl with | [_, _, _], _ => rfl)
  obtain ⟨f_is_convoy⟩ := fn_at (x := "is_convoy") (st := s_is_convoy) (ps := ["trucks", "gap", "span", "value"]) X G cd 16 16 rfl rfl (fun _ _ _ _ _ _ us hl => match us, hl with | [_, _, _, _], _ => rfl)
  obtain ⟨f_least_gap⟩ := fn_at (x := "least_gap") (st := s_least_gap) (ps := ["trucks", "span", "limit"]) X G cd 17 17 rfl rfl (fun _ _ _ _ _ _ us hl => match us, hl with | [_, _, _], _ => rfl)
  obtain ⟨f__law_dice⟩ := fn_at (x := "_law_dice") (st := s__law_dice) (ps := ["script", "spot"]) X G cd 18 18 rfl rfl (fun _ _ _ _ _ _ us hl => match us, hl with | [_, _], _ => rfl)
  obtain ⟨f__law_roll⟩ := fn_at (x := "_law_roll") (st := s__law_roll) (ps := ["dice", "total"]) X G cd 19 19 rfl rfl (fun _ _ _ _ _ _ us hl => match us, hl with | [_, _], _ => rfl)
  obtain ⟨f__law_pick⟩ := fn_at (x := "_law_pick") (st := s__law_pick) (ps := ["dice", "things"]) X G cd 20 20 rfl rfl (fun _ _ _ _ _ _ us hl => match us, hl with | [_, _], _ => rfl)
  obtain ⟨f__law_refused⟩ := fn_at (x := "_law_refused") (st := s__law_refused) (ps := ["call"]) X G cd 21 21 rfl rfl (fun _ _ _ _ _ _ us hl => match us, hl with | [_], _ => rfl)
  obtain ⟨f__law_on⟩ := fn_at (x := "_law_on") (st := s__law_on) (ps := ["truck", "span", "front"]) X G cd 22 22 rfl rfl (fun _ _ _ _ _ _ us hl => match us, hl with | [_, _, _], _ => rfl)
  obtain ⟨f__law_most⟩ := fn_at (x := "_law_most") (st := s__law_most) (ps := ["trucks", "gap", "span"]) X G cd 23 23 rfl rfl (fun _ _ _ _ _ _ us hl => match us, hl with | [_, _, _], _ => rfl)
  obtain ⟨f__law_by_search⟩ := fn_at (x := "_law_by_search") (st := s__law_by_search) (ps := ["trucks", "gap", "span"]) X G cd 24 24 rfl rfl (fun _ _ _ _ _ _ us hl => match us, hl with | [_, _, _], _ => rfl)
  obtain ⟨f__law_fronts_right⟩ := fn_at (x := "_law_fronts_right") (st := s__law_fronts_right) (ps := ["trucks", "value"]) X G cd 25 25 rfl rfl (fun _ _ _ _ _ _ us hl => match us, hl with | [_, _], _ => rfl)
  obtain ⟨f__law_is_due⟩ := fn_at (x := "_law_is_due") (st := s__law_is_due) (ps := ["trucks", "gap", "span", "value", "most"]) X G cd 26 26 rfl rfl (fun _ _ _ _ _ _ us hl => match us, hl with | [_, _, _, _, _], _ => rfl)
  obtain ⟨f__law_truck⟩ := fn_at (x := "_law_truck") (st := s__law_truck) (ps := ["dice", "far"]) X G cd 27 27 rfl rfl (fun _ _ _ _ _ _ us hl => match us, hl with | [_, _], _ => rfl)
  obtain ⟨f__law_drawn⟩ := fn_at (x := "_law_drawn") (st := s__law_drawn) (ps := ["dice", "trucks", "gap"]) X G cd 28 28 rfl rfl (fun _ _ _ _ _ _ us hl => match us, hl with | [_, _, _], _ => rfl)
  obtain ⟨f__law_near⟩ := fn_at (x := "_law_near") (st := s__law_near) (ps := ["dice", "value"]) X G cd 29 29 rfl rfl (fun _ _ _ _ _ _ us hl => match us, hl with | [_, _], _ => rfl)
  obtain ⟨f__law_refuses⟩ := fn_at (x := "_law_refuses") (st := s__law_refuses) (ps := ["dice", "trucks", "gap", "span"]) X G cd 30 30 rfl rfl (fun _ _ _ _ _ _ us hl => match us, hl with | [_, _, _, _], _ => rfl)
  obtain ⟨f__law_right⟩ := fn_at (x := "_law_right") (st := s__law_right) (ps := ["dice"]) X G cd 31 31 rfl rfl (fun _ _ _ _ _ _ us hl => match us, hl with | [_], _ => rfl)
  obtain ⟨f_law⟩ := fn_at (x := "law") (st := s_law) (ps := ["script"]) X G cd 32 32 rfl rfl (fun _ _ _ _ _ _ us hl => match us, hl with | [_], _ => rfl)
  have k_law_refuses : f__law_refuses.fd.code = .ref (He.cT K ("_law_refuses", none)).1 := by
    obtain ⟨oc, od, kV, doc, pm, an, cdv, ct, osl, e, lk, hcd⟩ := f__law_refuses.F.ex
    obtain ⟨c0, rfl⟩ := He.codeIn_ref hcd
    have e1 : f__law_refuses.fd.code = .ref c0 := by rw [e] <;> rfl
    have e2 : f__law_refuses.f = He.ga K "_law_refuses" := by
      have e3 := f__law_refuses.g.symm.trans (He.glo_ok X G (cd.fact 30 (f := .glo "_law_refuses") rfl))
      injection e3 with e3
      injection e3
    have e4 : (He.cT K ("_law_refuses", none)).1 = c0 := He.codeOf_eq (p := ("_law_refuses", none)) (by show K.lookup (He.ga K "_law_refuses") = _; rw [← e2]; exact lk) e1
    rw [e4]
    exact e1
  exact ⟨⟨{ cBad := He.ga K "BadArgument", cNot := He.ga K "NotPossible", cTxt := He.ga K "BadText", t_law_refuses := (He.cT K ("_law_refuses", none)).2 }, f_is_in, f_is_ascending, f_demand, f_is_axle, f_is_truck, f_are_trucks, f_is_place, f_are_fronts, f_weight_on, f_load_of, f_load, f_best_from, f_heaviest_of, f_demand_bridge, f_heaviest, f_convoy, f_is_convoy, f_least_gap, f__law_dice, f__law_roll, f__law_pick, f__law_refused, f__law_on, f__law_most, f__law_by_search, f__law_fronts_right, f__law_is_due, f__law_truck, f__law_drawn, f__law_near, f__law_refuses, f__law_right, f_law, He.free_ok X G (cd.fact 43 (f := .free "len") rfl), He.free_ok X G (cd.fact 44 (f := .free "sum") rfl), He.free_ok X G (cd.fact 45 (f := .free "all") rfl), He.free_ok X G (cd.fact 46 (f := .free "any") rfl), He.free_ok X G (cd.fact 47 (f := .free "isinstance") rfl), He.free_ok X G (cd.fact 48 (f := .free "tuple") rfl), He.free_ok X G (cd.fact 49 (f := .free "list") rfl), He.free_ok X G (cd.fact 50 (f := .free "int") rfl), He.free_ok X G (cd.fact 51 (f := .free "bool") rfl), He.free_ok X G (cd.fact 52 (f := .free "range") rfl), He.free_ok X G (cd.fact 53 (f := .free "zip") rfl), He.free_ok X G (cd.fact 54 (f := .free "enumerate") rfl), He.free_ok X G (cd.fact 55 (f := .free "min") rfl), He.free_ok X G (cd.fact 56 (f := .free "max") rfl), He.free_ok X G (cd.fact 57 (f := .free "sorted") rfl), He.free_ok X G (cd.fact 58 (f := .free "set") rfl), He.free_ok X G (cd.fact 59 (f := .free "abs") rfl), He.free_ok X G (cd.fact 60 (f := .free "super") rfl), He.int_ok X G (cd.fact 33 (f := .int "MOST_TRUCKS" 4) rfl), He.int_ok X G (cd.fact 34 (f := .int "MOST_LENGTH" 30) rfl), He.int_ok X G (cd.fact 35 (f := .int "MOST_AXLES" 5) rfl), He.int_ok X G (cd.fact 36 (f := .int "MOST_WEIGHT" 50) rfl), He.int_ok X G (cd.fact 37 (f := .int "MOST_GAP" 20) rfl), He.int_ok X G (cd.fact 38 (f := .int "MOST_SPAN" 100) rfl), He.int_ok X G (cd.fact 39 (f := .int "LEAST_FRONT" (-100)) rfl), He.int_ok X G (cd.fact 40 (f := .int "MOST_FRONT" 200) rfl), He.int_ok X G (cd.fact 41 (f := .int "MOST_CONVOY" 200) rfl), He.int_ok X G (cd.fact 42 (f := .int "MOST_LIMIT" 10000) rfl), He.ma K (He.ga K "BadArgument") "__init__", ErrX.errB_ok X G m0, (He.cT K ("_law_refuses", none)).1, k_law_refuses⟩, rfl, rfl⟩
theorem law_at {w : World} {mg : PySem.Str → Option Value} {fa' : Addr} {h : Heap} {K : PySem.W.Frag} (X : K.In h) (G : h.Ns mainGlobals mg) (c : He.SaysX fa fn [] tf ex w h K) (hmg : mg ("law" : PySem.Str) = some (.ref fa')) :
    LamX.LawAtS PySem.Challenge.rw_tollkeeper_k06_whole_loads w K (L2.CX (PySem.Challenge.rw_tollkeeper_k06_whole_loads).prog w) 11 63 "script" mg fa' h := by
  obtain ⟨T, hc_law_refuses, hA_law_refuses⟩ := top_of X G c
  have ef : T.f_law.f = fa' := by
    have e3 := T.f_law.g.symm.trans hmg
    injection e3 with e3
    injection e3
  subst ef
  have mem : ∀ p ∈ tf.map (He.cT K), ∃ q ∈ tf, p = He.cT K q := fun p hp => by
    obtain ⟨q, hq, rfl⟩ := List.mem_map.mp hp
    exact ⟨q, hq, rfl⟩
  refine ⟨T.f_law.fd, tf.map (He.cT K), lowSp K (sp_law T.A), fun p hp => ?_, fun p hp => ?_, fun p hp => ?_, fun s u => by
    obtain ⟨oc, od, kV, doc, pm, an, cdv, ct, osl, e, lk, hcd⟩ := T.f_law.F.ex
    rw [e]
    exact BindsTo.of_eq rfl, fun H a ns hl hb hT hS => ?_, fun base KB GB tb => ?_⟩
  · obtain ⟨q, hq, rfl⟩ := mem p hp
    exact c.empty q hq
  · obtain ⟨q, hq, rfl⟩ := mem p hp
    exact c.out q hq
  · obtain ⟨q, hq, rfl⟩ := mem p hp
    exact PySem.W.codeHd_of_K X (c.hd q hq)
  · refine start_at (TS := [((He.cT K ("_law_refuses", none)).2, "_law_refuses.<locals>.<lambda>")]) (Qd := fun z _ => z = .bl true) hS (Nat.le_trans hl (sz 63 (by decide))) (fun p hp => ?_) ?_ (fun z v G' H' d q => by subst q; cases d; rfl)
    · simp only [List.mem_cons, List.not_mem_nil, or_false] at hp
      subst hp
      all_goals exact hT _ (List.mem_map_of_mem (by decide))
    · exact ⟨hl, by rw [hA_law_refuses]; exact gup_same, fun _ => rfl⟩
  · exact ok_law T (by rw [hc_law_refuses, hA_law_refuses]; exact tb (He.cT K ("_law_refuses", none)) (List.mem_map_of_mem (by decide)))
end K06
open PySem PySem.W PySem.Calls PyProof.Rows
theorem PySem.Challenge.cw_tollkeeper_k06_whole_loads_holds : PySem.Challenge.rw_tollkeeper_k06_whole_loads.Holds := by
  w_on; o_law
  refine HandSHeadRun.head_any (r := OpenLaw.row PySem.Challenge.rw_tollkeeper_k06_whole_loads) (q := view (OpenLaw.row PySem.Challenge.rw_tollkeeper_k06_whole_loads).prog [48]) (H := K06.hk) (ob := K06.ob) (M := 3000) (loose := K06.looseN) (d := HandSHeadRun.topDef (OpenLaw.row PySem.Challenge.rw_tollkeeper_k06_whole_loads).prog 48) (kwd := []) K06.ob_eq
    (by kernel_rfl) (fun s => by kernel_rfl) K06.run (by kernel_rfl) (by kernel_rfl) (by kernel_rfl) (by rfl) (by first | assumption | decide +kernel) (by decide +kernel) ⟨rfl, rfl, rfl, rfl, rfl, by decide +kernel⟩ ?hw ?hc
  case hw => w_witness2
  case hc =>
    refine LamX.walk_ofTsE (l := PySem.Challenge.rw_tollkeeper_k06_whole_loads) (n := 63) (k := 11) (x := "script") (CX := fun w => L2.CX (PySem.Challenge.rw_tollkeeper_k06_whole_loads).prog w) rfl (by decide) (by kernel_rfl) ⟨rfl, by decide, by decide⟩ ?F (fun _ _ _ _ _ z => by obtain ⟨_, _, _, _, _, _, _, _, _, _, _, _, z⟩ := z; exact z)
    intro w mg fa' h Y G hmg0
    obtain ⟨K, KX, c⟩ := Y
    have hmg : mg ("law" : PySem.Str) = some (.ref fa') := by
      have e : (HandSHeadRun.topDef (OpenLaw.row PySem.Challenge.rw_tollkeeper_k06_whole_loads).prog 48).name = ("law" : PySem.Str) := by kernel_rfl
      rw [← e]
      exact hmg0
    exact ⟨K, KX, K06.law_at KX G c hmg⟩
