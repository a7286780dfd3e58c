import PyProof.Rows.All
import Wide.All
import OpenK.AllK
import Wide.FinOn
import HandS.ForMost
import HandS.Exc
import HandS.ExcOwn
import HandS.Star
import HandS.IsInst
import HandS.TupAny
import HandS.TupMul
import HandS.Lambda
import KE.GoesEnum
import HandS.WordsExc
import KE.KExcSuper
import KE.KSuper
import HandS.HeadWalk
import HandS.EndTab
import KE.DataMinMax
import HandS.Style
import HandS.Small
import HandS.ForList
import HandS.SetFor
import HandS.Strs
import HandS.HeadHook4
import HandS.Head2
import HandS.Defaults
import KE.KNestM
import HandS.Conv
import HandS.Zip
import KE.KDictWalk
import KE.KDictDisplayH
import HandS.SetKeys
import PyProof.Rows.AssignMoreSeq
import KE.KTupSum
import HandS.Deep
import HandS.TupLen
import HandS.SortRule
import KE.DataFind
import KE.KDictKeyed
import KE.KeyNested
import HandS.Text
import HandS.StrMore
import PyProof.StrOps2
import PyProof.ReprRoads
import KE.SortData
import PySem.Challenge.RW_tollkeeper_k07_whole_texts
set_option Elab.async false
set_option linter.all false
set_option maxRecDepth 100000
set_option maxHeartbeats 0
/-! # TD: data over the hand layer. Tuples, and lists that nobody changes, are values; what changes stands at an address of G -/
namespace TD
open PySem L2

/-- data -/
inductive D where
  | non | bl (b : Bool) | int (i : Int) | str (x : Str) | ref (a : Addr) | ty (n : String) | dic
  | tup (xs : List D) | lst (xs : List D) | scr (ns : List Int)

/-- what stands at a told address -/
inductive MO where
  | lst (xs : List D)
  | dK (kvs : List (Key × D))
  | dT (kvs : List (List Key × D))
  | fK (o : Obj) (ks : List (Key × V)) (kvs : List (Key × D))
  | fT (o : Obj) (ks : List (List Key × V)) (kvs : List (List Key × D))
  | ins (C : Addr) (fs : List (Str × D))
  | tab (q : Str)
  | tupC (xs : List D)
  | ext (φ : Heap → Prop) (ks : List (D × Addr))
abbrev GH := Addr → Option MO
def gup (G : GH) (a : Addr) (m : MO) : GH := fun b => if b = a then some m else G b
theorem gup_same {G : GH} {a : Addr} {m : MO} : gup G a m a = some m := by unfold gup; rw [if_pos rfl]
theorem gup_ne {G : GH} {a b : Addr} {m : MO} (h : b ≠ a) : gup G a m b = G b := by unfold gup; rw [if_neg h]
theorem gup_gup {G : GH} {a : Addr} {m n : MO} : gup (gup G a m) a n = gup G a n := by
  funext b; unfold gup; split <;> rfl

section
variable (K : PySem.W.Frag)
/-- a list's object of the written part -/
def KLst (a : Addr) (xs : List V) : Prop :=
  ∃ (o : Obj) (its : Array Value) (n : Nat), K.lookup a = some o ∧ o.cls = .type "list" ∧ o.dict = none ∧ o.data = .seq its n ∧ its.size ≤ sizeLine ∧ Vals xs its.toList
/-- a list that nobody can change (the script) -/
def LV (Z : Addr → Prop) (G : GH) (H : Hp) (a : Addr) (xs : List V) : Prop :=
  (G a = none ∧ ¬ Z a ∧ Rd H a (.lst xs)) ∨ KLst K a xs
mutual
inductive DV (Z : Addr → Prop) (G : GH) (H : Hp) : D → V → Prop
  | non : DV Z G H .non .non
  | bl (b : Bool) : DV Z G H (.bl b) (.bl b)
  | int (i : Int) : DV Z G H (.int i) (.int i)
  | str (x : Str) : DV Z G H (.str x) (.str x)
  | ref (a : Addr) : DV Z G H (.ref a) (.ref a)
  | ty (n : String) : DV Z G H (.ty n) (.ty n)
  | dic {a : Addr} : ¬ Z a → G a = none → ((∃ kvs, H a = some (.dK kvs)) ∨ ∃ kvs, H a = some (.dT kvs)) → DV Z G H .dic (.ref a)
  | tup {a : Addr} {vs : List V} {ds : List D} : ¬ Z a → G a = none → H a = some (.tup vs) → vs.length ≤ sizeLine → DVs Z G H ds vs → DV Z G H (.tup ds) (.ref a)
  | lst {a : Addr} {vs : List V} {ds : List D} : ¬ Z a → G a = none → H a = some (.lst vs) → vs.length ≤ sizeLine → DVs Z G H ds vs → DV Z G H (.lst ds) (.ref a)
  | scr {a : Addr} {ns : List Int} : LV K Z G H a (ns.map V.int) → ns.length ≤ sizeLine → DV Z G H (.scr ns) (.ref a)
inductive DVs (Z : Addr → Prop) (G : GH) (H : Hp) : List D → List V → Prop
  | nil : DVs Z G H [] []
  | cons {d : D} {v : V} {ds : List D} {vs : List V} : DV Z G H d v → DVs Z G H ds vs → DVs Z G H (d :: ds) (v :: vs)
end
end

/-- what is not told stays as it is, and untold -/
def Fr (G : GH) (H : Hp) (G' : GH) (H' : Hp) : Prop := ∀ b o, H b = some o → G b = none → H' b = some o ∧ G' b = none
theorem Fr.refl (G : GH) (H : Hp) : Fr G H G H := fun _ _ h n => ⟨h, n⟩
theorem Fr.trans {G G1 G2 : GH} {H H1 H2 : Hp} (a : Fr G H G1 H1) (b : Fr G1 H1 G2 H2) : Fr G H G2 H2 := fun c o h n => by
  obtain ⟨h1, n1⟩ := a c o h n
  exact b c o h1 n1

section
variable {K : PySem.W.Frag} {Z : Addr → Prop} {G G' G1 : GH} {H H' H1 : Hp}
theorem LV.mono {a : Addr} {xs : List V} (f : Fr G H G' H') (h : LV K Z G H a xs) : LV K Z G' H' a xs := by
  rcases h with ⟨g, nz, h | ⟨o, h⟩⟩ | h
  · obtain ⟨h1, n1⟩ := f _ _ h g
    exact .inl ⟨n1, nz, .inl h1⟩
  · obtain ⟨h1, n1⟩ := f _ _ h g
    exact .inl ⟨n1, nz, .inr ⟨o, h1⟩⟩
  · exact .inr h
theorem LV.zmono {Z' : Addr → Prop} {a : Addr} {xs : List V} (hz : ∀ a, H a ≠ none → Z' a → Z a) (h : LV K Z G H a xs) : LV K Z' G H a xs := by
  rcases h with ⟨g, nz, h⟩ | h
  · refine .inl ⟨g, fun q => nz (hz a ?_ q), h⟩
    rcases h with h | ⟨o, h⟩ <;> (rw [h]; exact fun z => nomatch z)
  · exact .inr h
theorem LV.seq {a : Addr} {xs : List V} (h : LV K Z G H a xs) : SqL K H a xs := by
  rcases h with ⟨g, _, h⟩ | h
  · exact .inl h
  · exact .inr h
mutual
theorem DV.mono (f : Fr G H G' H') : ∀ {d : D} {v : V}, DV K Z G H d v → DV K Z G' H' d v
  | _, _, .non => .non
  | _, _, .bl b => .bl b
  | _, _, .int i => .int i
  | _, _, .str x => .str x
  | _, _, .ref a => .ref a
  | _, _, .ty n => .ty n
  | _, _, .dic nz g h => by
    rcases h with ⟨k, h⟩ | ⟨k, h⟩
    · obtain ⟨h1, n1⟩ := f _ _ h g
      exact .dic nz n1 (.inl ⟨k, h1⟩)
    · obtain ⟨h1, n1⟩ := f _ _ h g
      exact .dic nz n1 (.inr ⟨k, h1⟩)
  | _, _, .tup nz g h z r => by
    obtain ⟨h1, n1⟩ := f _ _ h g
    exact .tup nz n1 h1 z (DVs.mono f r)
  | _, _, .lst nz g h z r => by
    obtain ⟨h1, n1⟩ := f _ _ h g
    exact .lst nz n1 h1 z (DVs.mono f r)
  | _, _, .scr h z => .scr (h.mono f) z
theorem DVs.mono (f : Fr G H G' H') : ∀ {ds : List D} {vs : List V}, DVs K Z G H ds vs → DVs K Z G' H' ds vs
  | _, _, .nil => .nil
  | _, _, .cons a b => .cons (DV.mono f a) (DVs.mono f b)
end
theorem DVs.length : ∀ {ds : List D} {vs : List V}, DVs K Z G H ds vs → ds.length = vs.length
  | _, _, .nil => rfl
  | _, _, .cons _ b => by rw [List.length_cons, List.length_cons, DVs.length b]
theorem DVs.get : ∀ {ds : List D} {vs : List V} {i : Nat} {d : D}, DVs K Z G H ds vs → ds[i]? = some d → ∃ v, vs[i]? = some v ∧ DV K Z G H d v
  | _, _, _, _, .nil, e => by simp at e
  | _, _, 0, _, .cons r _, e => by simp at e; subst e; exact ⟨_, rfl, r⟩
  | _, _, i + 1, d, .cons _ t, e => by
    obtain ⟨v, h1, h2⟩ := DVs.get (i := i) (d := d) t (by simpa using e)
    exact ⟨v, by simpa using h1, h2⟩
theorem DVs.getV : ∀ {ds : List D} {vs : List V} {i : Nat} {v : V}, DVs K Z G H ds vs → vs[i]? = some v → ∃ d, ds[i]? = some d ∧ DV K Z G H d v
  | _, _, _, _, .nil, e => by simp at e
  | _, _, 0, _, .cons r _, e => by simp at e; subst e; exact ⟨_, rfl, r⟩
  | _, _, i + 1, d, .cons _ t, e => by
    obtain ⟨v, h1, h2⟩ := DVs.getV (i := i) (v := d) t (by simpa using e)
    exact ⟨v, by simpa using h1, h2⟩
theorem DVs.append : ∀ {ds es : List D} {vs us : List V}, DVs K Z G H ds vs → DVs K Z G H es us → DVs K Z G H (ds ++ es) (vs ++ us)
  | _, _, _, _, .nil, s => s
  | _, _, _, _, .cons r t, s => .cons r (DVs.append t s)
theorem DVs.set {d : D} {v : V} (r : DV K Z G H d v) : ∀ {ds : List D} {vs : List V} (i : Nat), DVs K Z G H ds vs → DVs K Z G H (ds.set i d) (vs.set i v)
  | _, _, _, .nil => .nil
  | _, _, 0, .cons _ t => .cons r t
  | _, _, i + 1, .cons q t => .cons q (DVs.set r i t)
theorem DVs.take : ∀ {ds : List D} {vs : List V} (n : Nat), DVs K Z G H ds vs → DVs K Z G H (ds.take n) (vs.take n)
  | _, _, 0, _ => .nil
  | _, _, _ + 1, .nil => .nil
  | _, _, n + 1, .cons r t => .cons r (DVs.take n t)
theorem DVs.drop : ∀ {ds : List D} {vs : List V} (n : Nat), DVs K Z G H ds vs → DVs K Z G H (ds.drop n) (vs.drop n)
  | _, _, 0, r => r
  | _, _, _ + 1, .nil => .nil
  | _, _, n + 1, .cons _ t => DVs.drop n t
theorem DVs.eraseIdx : ∀ {ds : List D} {vs : List V} (n : Nat), DVs K Z G H ds vs → DVs K Z G H (ds.eraseIdx n) (vs.eraseIdx n)
  | _, _, _, .nil => .nil
  | _, _, 0, .cons _ t => t
  | _, _, n + 1, .cons r t => .cons r (DVs.eraseIdx n t)
theorem DVs.reverse {ds : List D} {vs : List V} (h : DVs K Z G H ds vs) : DVs K Z G H ds.reverse vs.reverse := by
  induction ds generalizing vs with
  | nil => cases h; exact .nil
  | cons d ds ih =>
    cases h with
    | cons a b =>
      rw [List.reverse_cons, List.reverse_cons]
      exact (ih b).append (.cons a .nil)
theorem DVs.rep {ds : List D} {vs : List V} (h : DVs K Z G H ds vs) : ∀ k : Nat, DVs K Z G H (List.replicate k ds).flatten (List.replicate k vs).flatten
  | 0 => .nil
  | k + 1 => by
    rw [List.replicate_succ, List.replicate_succ, List.flatten_cons, List.flatten_cons]
    exact h.append (DVs.rep h k)
theorem DVs.ints : ∀ {ns : List Int} {vs : List V}, DVs K Z G H (ns.map D.int) vs → vs = ns.map V.int
  | [], _, .nil => rfl
  | n :: ns, _, .cons a b => by
    cases a
    rw [DVs.ints b] <;> rfl
theorem DVs.of_ints : ∀ (ns : List Int), DVs K Z G H (ns.map D.int) (ns.map V.int)
  | [] => .nil
  | n :: ns => .cons (.int n) (DVs.of_ints ns)
theorem DVs.strs : ∀ {ns : List Str} {vs : List V}, DVs K Z G H (ns.map D.str) vs → vs = ns.map V.str
  | [], _, .nil => rfl
  | n :: ns, _, .cons a b => by
    cases a
    rw [DVs.strs b] <;> rfl
theorem DVs.bls : ∀ {ns : List Bool} {vs : List V}, DVs K Z G H (ns.map D.bl) vs → vs = ns.map V.bl
  | [], _, .nil => rfl
  | n :: ns, _, .cons a b => by
    cases a
    rw [DVs.bls b] <;> rfl

/-! ### the told objects -/
abbrev PairD (K : PySem.W.Frag) (Z : Addr → Prop) (G : GH) (H : Hp) {κ : Type} : List (κ × D) → List (κ × V) → Prop := Paired fun (p : κ × D) (q : κ × V) => p.1 = q.1 ∧ DV K Z G H p.2 q.2
theorem PairD.mono {κ : Type} (f : Fr G H G' H') : ∀ {l : List (κ × D)} {m : List (κ × V)}, PairD K Z G H l m → PairD K Z G' H' l m
  | _, _, .nil => .nil
  | _, _, .cons a b => .cons ⟨a.1, a.2.mono f⟩ (PairD.mono f b)
def MR (K : PySem.W.Frag) (Z : Addr → Prop) (G : GH) (H : Hp) (a : Addr) : MO → Prop
  | .lst ds => ∃ vs, H a = some (.lst vs) ∧ DVs K Z G H ds vs ∧ vs.length ≤ sizeLine
  | .dK kvs => ∃ ks, H a = some (.dK ks) ∧ PairD K Z G H kvs ks
  | .dT kvs => ∃ ks, H a = some (.dT ks) ∧ PairD K Z G H kvs ks
  | .fK o ks kvs => H a = some (.frz o (.dK ks)) ∧ PairD K Z G H kvs ks
  | .fT o ks kvs => H a = some (.frz o (.dT ks)) ∧ PairD K Z G H kvs ks
  | .ins C fs => ∃ dx fv, H a = some (.ins C dx fv) ∧ PairD K Z G H fs fv
  | .tab q => ∃ ps : Array Value, H a = some (.tbl ps) ∧ TriplesOk ps.toList ∧ ∀ (pos : Pos) (cv : Value), codeAmong pos ps.toList = some cv → ∃ c, cv = .ref c ∧ H c = some (LamX.CodeO c q) ∧ G c = none
  | .tupC ds => ∃ (o : Obj) (vs : List V), H a = some (.frz o (.tup vs)) ∧ o.dict = none ∧ DVs K Z G H ds vs ∧ vs.length ≤ sizeLine
  | .ext φ ks => H a = some (.ext φ) ∧ ∀ p ∈ ks, DV K Z G H p.1 (.ref p.2)
structure HR (K : PySem.W.Frag) (Z : Addr → Prop) (G : GH) (H : Hp) : Prop where
  at_ : ∀ a m, G a = some m → MR K Z G H a m
  hid : ∀ a, Z a → (∃ ws, H a = some (.lst ws)) ∧ G a = none
theorem MR.some {a : Addr} {m : MO} (h : MR K Z G H a m) : H a ≠ none := by
  cases m with
  | lst ds => obtain ⟨vs, e, _⟩ := h; rw [e]; exact fun z => nomatch z
  | dK ds => obtain ⟨vs, e, _⟩ := h; rw [e]; exact fun z => nomatch z
  | dT ds => obtain ⟨vs, e, _⟩ := h; rw [e]; exact fun z => nomatch z
  | fK o ks ds => obtain ⟨e, _⟩ := h; rw [e]; exact fun z => nomatch z
  | fT o ks ds => obtain ⟨e, _⟩ := h; rw [e]; exact fun z => nomatch z
  | ins C fs => obtain ⟨_, _, e, _⟩ := h; rw [e]; exact fun z => nomatch z
  | tab q => obtain ⟨_, e, _⟩ := h; rw [e]; exact fun z => nomatch z
  | tupC ds => obtain ⟨_, _, e, _⟩ := h; rw [e]; exact fun z => nomatch z
  | ext φ ks => obtain ⟨e, _⟩ := h; rw [e]; exact fun z => nomatch z
theorem HR.free (h : HR K Z G H) {p : Addr} (e : H p = none) : G p = none := by
  cases q : G p with
  | none => rfl
  | some m => exact absurd e (h.at_ p m q).some
theorem HR.noZ (h : HR K Z G H) {p : Addr} (e : H p = none) : ¬ Z p := fun z => by
  obtain ⟨ws, q⟩ := (h.hid p z).1
  rw [e] at q
  cases q
theorem HR.tupZ (h : HR K Z G H) {p : Addr} {vs : List V} (e : H p = some (.tup vs)) : ¬ Z p ∧ G p = none := by
  refine ⟨fun z => ?_, ?_⟩
  · obtain ⟨ws, q⟩ := (h.hid p z).1
    rw [e] at q
    cases q
  · cases g : G p with
    | none => rfl
    | some m =>
      have r := h.at_ p m g
      cases m with
      | lst ds => obtain ⟨_, q, _⟩ := r; rw [e] at q; cases q
      | dK ds => obtain ⟨_, q, _⟩ := r; rw [e] at q; cases q
      | dT ds => obtain ⟨_, q, _⟩ := r; rw [e] at q; cases q
      | fK o ks ds => obtain ⟨q, _⟩ := r; rw [e] at q; cases q
      | fT o ks ds => obtain ⟨q, _⟩ := r; rw [e] at q; cases q
      | ins C fs => obtain ⟨_, _, q, _⟩ := r; rw [e] at q; cases q
      | tab w => obtain ⟨_, q, _⟩ := r; rw [e] at q; cases q
      | tupC ds => obtain ⟨_, _, q, _⟩ := r; rw [e] at q; cases q
      | ext φ ks => obtain ⟨q, _⟩ := r; rw [e] at q; cases q
theorem hid_mono {a : Addr} (f : Fr G H G' H') (h : (∃ ws, H a = some (.lst ws)) ∧ G a = none) : (∃ ws, H' a = some (.lst ws)) ∧ G' a = none := by
  obtain ⟨⟨ws, h1⟩, h2⟩ := h
  obtain ⟨e, n⟩ := f a _ h1 h2
  exact ⟨⟨ws, e⟩, n⟩
theorem MR.keep {a : Addr} {m : MO} (f : Fr G H G' H') (e : H' a = H a) (h : MR K Z G H a m) : MR K Z G' H' a m := by
  cases m with
  | lst ds => obtain ⟨vs, h1, h2, h3⟩ := h; exact ⟨vs, e.trans h1, h2.mono f, h3⟩
  | dK ds => obtain ⟨vs, h1, h2⟩ := h; exact ⟨vs, e.trans h1, h2.mono f⟩
  | dT ds => obtain ⟨vs, h1, h2⟩ := h; exact ⟨vs, e.trans h1, h2.mono f⟩
  | fK o ks ds => obtain ⟨h1, h2⟩ := h; exact ⟨e.trans h1, h2.mono f⟩
  | fT o ks ds => obtain ⟨h1, h2⟩ := h; exact ⟨e.trans h1, h2.mono f⟩
  | ins C fs => obtain ⟨dx, fv, h1, h2⟩ := h; exact ⟨dx, fv, e.trans h1, h2.mono f⟩
  | tab q =>
    obtain ⟨ps, h1, h2, h3⟩ := h
    refine ⟨ps, e.trans h1, h2, fun pos cv hc => ?_⟩
    obtain ⟨c, e1, e2, e3⟩ := h3 pos cv hc
    exact ⟨c, e1, (f _ _ e2 e3).1, (f _ _ e2 e3).2⟩
  | tupC ds => obtain ⟨o, vs, h1, h2, h3, h4⟩ := h; exact ⟨o, vs, e.trans h1, h2, h3.mono f, h4⟩
  | ext φ ks => obtain ⟨h1, h2⟩ := h; exact ⟨e.trans h1, fun p hp => (h2 p hp).mono f⟩
/-- a new object, untold -/
theorem Fr.new {p : Addr} {o : HO} (e : H p = none) : Fr G H G (upd H p o) := fun b u h n => ⟨by rw [upd_ne (ne_of_none h e)]; exact h, n⟩
theorem HR.new (h : HR K Z G H) {p : Addr} {o : HO} (e : H p = none) : HR K Z G (upd H p o) := ⟨fun a m q =>
  (h.at_ a m q).keep (Fr.new e) (upd_ne fun z => (h.at_ a m q).some (z ▸ e)), fun a q => hid_mono (Fr.new e) (h.hid a q)⟩
/-- a new object, told -/
theorem Fr.newT {p : Addr} {o : HO} {m : MO} (e : H p = none) : Fr G H (gup G p m) (upd H p o) := fun b u h n =>
  ⟨by rw [upd_ne (ne_of_none h e)]; exact h, by rw [gup_ne (ne_of_none h e)]; exact n⟩
theorem HR.newT (h : HR K Z G H) {p : Addr} {o : HO} {m : MO} (e : H p = none) (r : MR K Z (gup G p m) (upd H p o) p m) : HR K Z (gup G p m) (upd H p o) := ⟨fun a n q => by
  by_cases z : a = p
  · rw [z, gup_same] at q
    cases q
    rw [z]; exact r
  · rw [gup_ne z] at q
    exact (h.at_ a n q).keep (Fr.newT e) (upd_ne z), fun a q => hid_mono (Fr.newT e) (h.hid a q)⟩
/-- a told object is written -/
theorem Fr.put {p : Addr} {o : HO} {m m' : MO} (e : G p = some m') : Fr G H (gup G p m) (upd H p o) := fun b u h n => by
  have z : b ≠ p := fun z => by rw [z, e] at n; cases n
  exact ⟨by rw [upd_ne z]; exact h, by rw [gup_ne z]; exact n⟩
theorem HR.put (h : HR K Z G H) {p : Addr} {o : HO} {m m' : MO} (e : G p = some m') (r : MR K Z (gup G p m) (upd H p o) p m) : HR K Z (gup G p m) (upd H p o) := ⟨fun a n q => by
  by_cases z : a = p
  · rw [z, gup_same] at q
    cases q
    rw [z]; exact r
  · rw [gup_ne z] at q
    exact (h.at_ a n q).keep (Fr.put e) (upd_ne z), fun a q => hid_mono (Fr.put e) (h.hid a q)⟩
/-- a told object is forgotten: from now on it is a value -/
def gdel (G : GH) (a : Addr) : GH := fun b => if b = a then none else G b
/-- fewer told objects -/
def Sub (G' G : GH) : Prop := ∀ b m, G' b = some m → G b = some m

/-! ### slots -/
abbrev Rho := List (Option D)
structure SR (K : PySem.W.Frag) (Z : Addr → Prop) (G : GH) (H : Hp) (ρ : Rho) (σ : L2.St) : Prop where
  len : σ.length = ρ.length
  at_ : ∀ (i : Nat) (d : D), ρ[i]? = some (some d) → ∃ v, σ[i]? = some (some v) ∧ DV K Z G H d v
theorem SR.mono {ρ : Rho} {σ : L2.St} (f : Fr G H G' H') (h : SR K Z G H ρ σ) : SR K Z G' H' ρ σ :=
  ⟨h.len, fun i d e => let ⟨v, a, b⟩ := h.at_ i d e; ⟨v, a, b.mono f⟩⟩
theorem SR.set {ρ : Rho} {σ : L2.St} (h : SR K Z G H ρ σ) {d : D} {v : V} (r : DV K Z G H d v) (i : Nat) : SR K Z G H (ρ.set i (some d)) (σ.set i (some v)) := by
  refine ⟨by rw [List.length_set, List.length_set]; exact h.len, fun j e q => ?_⟩
  by_cases z : i = j
  · subst z
    by_cases l : i < ρ.length
    · rw [List.getElem?_set_self l] at q
      cases q
      exact ⟨v, by rw [List.getElem?_set_self (by rw [h.len]; exact l)], r⟩
    · rw [List.getElem?_eq_none (by rw [List.length_set]; omega)] at q
      cases q
  · rw [List.getElem?_set_ne z] at q
    rw [List.getElem?_set_ne z]
    exact h.at_ j e q
/-- a slot is forgotten -/
theorem SR.unset {ρ : Rho} {σ : L2.St} (h : SR K Z G H ρ σ) (o : Option V) (i : Nat) : SR K Z G H (ρ.set i none) (σ.set i o) := by
  refine ⟨by rw [List.length_set, List.length_set]; exact h.len, fun j e q => ?_⟩
  by_cases z : i = j
  · subst z
    by_cases l : i < ρ.length
    · rw [List.getElem?_set_self l] at q
      cases q
    · rw [List.getElem?_eq_none (by rw [List.length_set]; omega)] at q
      cases q
  · rw [List.getElem?_set_ne z] at q
    rw [List.getElem?_set_ne z]
    exact h.at_ j e q
end

/-! ### readings at the level of data -/
/-- what is wanted of an exception of the class at C with these fields -/
abbrev XD := Addr → List (Str × D) → GH → Prop
abbrev DK := D → GH → Prop
abbrev DE := Rho → XD → GH → DK → Prop
abbrev DT := Rho → XD → GH → (Bool → GH → Prop) → Prop
abbrev DA := Rho → XD → GH → (List D → GH → Prop) → Prop
structure DEnds where
  nx : Rho → GH → Prop
  rt : DK
  bk : Rho → GH → Prop := fun _ _ => False
  ct : Rho → GH → Prop := fun _ _ => False
  xx : Rho → XD := fun _ _ _ _ => False
abbrev DS := DEnds → Rho → GH → Prop
abbrev DG := D → Rho → XD → GH → (Rho → GH → Prop) → Prop
abbrev DGs := List D → Rho → XD → GH → (Rho → GH → Prop) → Prop

/-- the way out by an exception -/
def XOk (K : PySem.W.Frag) (Z : Addr → Prop) (W : WX) (G : GH) (H : Hp) (σ : L2.St) (x : XD) : Prop :=
  ∀ (C : Addr) (fs : List (Str × D)) (d : Addr) (fv : List (Str × V)) (G' : GH) (H' : Hp), Fr G H G' H' → HR K Z G' H' → H' d = some (.xd fv) → G' d = none → PairD K Z G' H' fs fv → x C fs G' → W (.ref C) (some d) σ H'
theorem XOk.mono {K : PySem.W.Frag} {Z : Addr → Prop} {W : WX} {G G' : GH} {H H' : Hp} {σ : L2.St} {x : XD} (f : Fr G H G' H') (h : XOk K Z W G H σ x) : XOk K Z W G' H' σ x :=
  fun C fs d fv G2 H2 f2 r2 e n p q => h C fs d fv G2 H2 (f.trans f2) r2 e n p q
def lowE (K : PySem.W.Frag) (W : WX) (d : DE) : TE := fun σ H Q => ∃ (Z : Addr → Prop) (ρ : Rho) (x : XD) (G : GH) (Qd : DK), SR K Z G H ρ σ ∧ HR K Z G H ∧ d ρ x G Qd ∧
  (∀ z v G' H', Fr G H G' H' → HR K Z G' H' → DV K Z G' H' z v → Qd z G' → Q v H') ∧ XOk K Z W G H σ x
def lowT (K : PySem.W.Frag) (W : WX) (d : DT) : TT := fun σ H Q => ∃ (Z : Addr → Prop) (ρ : Rho) (x : XD) (G : GH) (Qd : Bool → GH → Prop), SR K Z G H ρ σ ∧ HR K Z G H ∧ d ρ x G Qd ∧
  (∀ b G' H', Fr G H G' H' → HR K Z G' H' → Qd b G' → Q b H') ∧ XOk K Z W G H σ x
def lowA (K : PySem.W.Frag) (W : WX) (d : DA) : TA := fun σ H Q => ∃ (Z : Addr → Prop) (ρ : Rho) (x : XD) (G : GH) (Qd : List D → GH → Prop), SR K Z G H ρ σ ∧ HR K Z G H ∧ d ρ x G Qd ∧
  (∀ zs vs G' H', Fr G H G' H' → HR K Z G' H' → DVs K Z G' H' zs vs → Qd zs G' → Q vs H') ∧ XOk K Z W G H σ x
structure EndsOk (K : PySem.W.Frag) (Z : Addr → Prop) (W : WX) (G : GH) (H : Hp) (Dd : DEnds) (E : Ends) : Prop where
  nx : ∀ ρ' σ' G' H', Fr G H G' H' → HR K Z G' H' → SR K Z G' H' ρ' σ' → Dd.nx ρ' G' → E.nx σ' H'
  rt : ∀ z v G' H', Fr G H G' H' → HR K Z G' H' → DV K Z G' H' z v → Dd.rt z G' → E.rt v H'
  bk : ∀ ρ' σ' G' H', Fr G H G' H' → HR K Z G' H' → SR K Z G' H' ρ' σ' → Dd.bk ρ' G' → E.bk σ' H'
  ct : ∀ ρ' σ' G' H', Fr G H G' H' → HR K Z G' H' → SR K Z G' H' ρ' σ' → Dd.ct ρ' G' → E.ct σ' H'
  xx : ∀ ρ' σ' G' H', Fr G H G' H' → SR K Z G' H' ρ' σ' → XOk K Z W G' H' σ' (Dd.xx ρ')
theorem EndsOk.mono {K : PySem.W.Frag} {Z : Addr → Prop} {W : WX} {G G1 : GH} {H H1 : Hp} {Dd : DEnds} {E : Ends} (f : Fr G H G1 H1) (h : EndsOk K Z W G H Dd E) : EndsOk K Z W G1 H1 Dd E :=
  ⟨fun ρ' σ' G' H' f2 => h.nx ρ' σ' G' H' (f.trans f2), fun z v G' H' f2 => h.rt z v G' H' (f.trans f2), fun ρ' σ' G' H' f2 => h.bk ρ' σ' G' H' (f.trans f2),
    fun ρ' σ' G' H' f2 => h.ct ρ' σ' G' H' (f.trans f2), fun ρ' σ' G' H' f2 => h.xx ρ' σ' G' H' (f.trans f2)⟩
def lowS (K : PySem.W.Frag) (W : WX) (d : DS) : TS := fun E σ H => ∃ (Z : Addr → Prop) (ρ : Rho) (G : GH) (Dd : DEnds), SR K Z G H ρ σ ∧ HR K Z G H ∧ d Dd ρ G ∧ EndsOk K Z W G H Dd E
/-- targets; vs: the slots that they may set -/
def lowG (K : PySem.W.Frag) (W : WX) (vs : List Nat) (g : DG) : TG := fun v σ H Q => ∃ (Z : Addr → Prop) (z : D) (ρ : Rho) (x : XD) (G : GH) (Qd : Rho → GH → Prop), DV K Z G H z v ∧ SR K Z G H ρ σ ∧ HR K Z G H ∧ g z ρ x G Qd ∧
  (∀ ρ' σ' G' H', Fr G H G' H' → HR K Z G' H' → SR K Z G' H' ρ' σ' → wipe σ' vs = wipe σ vs → Qd ρ' G' → Q σ' H') ∧ XOk K Z W G H σ x
def lowGs (K : PySem.W.Frag) (W : WX) (vs : List Nat) (g : DGs) : TGs := fun us σ H Q => ∃ (Z : Addr → Prop) (zs : List D) (ρ : Rho) (x : XD) (G : GH) (Qd : Rho → GH → Prop), DVs K Z G H zs us ∧ SR K Z G H ρ σ ∧ HR K Z G H ∧ g zs ρ x G Qd ∧
  (∀ ρ' σ' G' H', Fr G H G' H' → HR K Z G' H' → SR K Z G' H' ρ' σ' → wipe σ' vs = wipe σ vs → Qd ρ' G' → Q σ' H') ∧ XOk K Z W G H σ x
end TD
/-! # TD, 2: expressions -/
namespace TD
open PySem L2

theorem PE.imp {X : Cx} {e : Expr} {t t' : TE} (h : PE X e t) (i : ∀ σ H Q, t' σ H Q → t σ H Q) : PE X e t' := ⟨fun pins s σ H Q I q => h.run pins s σ H Q I (i σ H Q q)⟩
theorem PT.imp {X : Cx} {e : Expr} {t t' : TT} (h : PT X e t) (i : ∀ σ H Q, t' σ H Q → t σ H Q) : PT X e t' := ⟨fun pins s σ H Q I q => h.run pins s σ H Q I (i σ H Q q)⟩
theorem PW.imp {X : Cx} {e : Expr} {t t' : TT} (h : PW X e t) (i : ∀ σ H Q, t' σ H Q → t σ H Q) : PW X e t' := ⟨fun w pins s σ H Q I q => h.run w pins s σ H Q I (i σ H Q q)⟩
theorem PA.imp {X : Cx} {es : List Expr} {t t' : TA} (h : PA X es t) (i : ∀ σ H Q, t' σ H Q → t σ H Q) : PA X es t' := ⟨fun pos pins s σ H Q I q => h.run pos pins s σ H Q I (i σ H Q q)⟩
theorem PS.imp {X : Cx} {st : Stmt} {t t' : TS} (h : PS X st t) (i : ∀ E σ H, t' E σ H → t E σ H) : PS X st t' := ⟨fun pins s σ H E I q => h.run pins s σ H E I (i E σ H q)⟩
theorem PSs.imp {X : Cx} {st : List Stmt} {t t' : TS} (h : PSs X st t) (i : ∀ E σ H, t' E σ H → t E σ H) : PSs X st t' := ⟨fun pins s σ H E I q => h.run pins s σ H E I (i E σ H q)⟩
theorem PG.imp {X : Cx} {e : Expr} {t t' : TG} (h : PG X e t) (i : ∀ v σ H Q, t' v σ H Q → t v σ H Q) : PG X e t' := ⟨fun pins s σ H v u Q I r q => h.run pins s σ H v u Q I r (i v σ H Q q)⟩
theorem PGs.imp {X : Cx} {es : List Expr} {t t' : TGs} (h : PGs X es t) (i : ∀ v σ H Q, t' v σ H Q → t v σ H Q) : PGs X es t' := ⟨fun pins s σ H v u Q I r q => h.run pins s σ H v u Q I r (i v σ H Q q)⟩

/-! ### the judgements -/
abbrev PD (X : Cx) (W : WX) (e : Expr) (d : DE) : Prop := PE X e (lowE X.K W d)
abbrev PDT (X : Cx) (W : WX) (e : Expr) (d : DT) : Prop := PT X e (lowT X.K W d)
abbrev PDW (X : Cx) (W : WX) (e : Expr) (d : DT) : Prop := PW X e (lowT X.K W d)
abbrev PDA (X : Cx) (W : WX) (es : List Expr) (d : DA) : Prop := PA X es (lowA X.K W d)
abbrev PDS (X : Cx) (W : WX) (st : Stmt) (d : DS) : Prop := PS X st (lowS X.K W d)
abbrev PDSs (X : Cx) (W : WX) (st : List Stmt) (d : DS) : Prop := PSs X st (lowS X.K W d)
abbrev PDG (X : Cx) (W : WX) (vs : List Nat) (e : Expr) (d : DG) : Prop := PG X e (lowG X.K W vs d)
abbrev PDGs (X : Cx) (W : WX) (vs : List Nat) (e : List Expr) (d : DGs) : Prop := PGs X e (lowGs X.K W vs d)

/-- what follows a value -/
abbrev Ret (K : PySem.W.Frag) (Z : Addr → Prop) (G : GH) (H : Hp) (Qd : DK) (Q : VK) : Prop := ∀ z v G' H', Fr G H G' H' → HR K Z G' H' → DV K Z G' H' z v → Qd z G' → Q v H'
section
variable {K : PySem.W.Frag} {Z : Addr → Prop} {G G1 : GH} {H H1 : Hp} {Qd : DK} {Q : VK} {z : D} {v : V}
theorem Ret.here (c : Ret K Z G H Qd Q) (hr : HR K Z G H) (r : DV K Z G H z v) (q : Qd z G) : Q v H := c z v G H (Fr.refl G H) hr r q
theorem Ret.mono (f : Fr G H G1 H1) (c : Ret K Z G H Qd Q) : Ret K Z G1 H1 Qd Q := fun z v G' H' f2 => c z v G' H' (f.trans f2)
theorem Ret.tup (c : Ret K Z G H Qd Q) (hr : HR K Z G H) {p : Addr} {ds : List D} {vs : List V} (e : H p = none) (r : DVs K Z G H ds vs) (hz : vs.length ≤ sizeLine) (q : Qd (.tup ds) G) : Q (.ref p) (upd H p (.tup vs)) :=
  c (.tup ds) _ G _ (Fr.new e) (hr.new e) (.tup (hr.noZ e) (hr.free e) upd_same hz (r.mono (Fr.new e))) q
theorem Ret.lst (c : Ret K Z G H Qd Q) (hr : HR K Z G H) {p : Addr} {ds : List D} {vs : List V} (e : H p = none) (r : DVs K Z G H ds vs) (hz : vs.length ≤ sizeLine) (q : Qd (.lst ds) G) : Q (.ref p) (upd H p (.lst vs)) :=
  c (.lst ds) _ G _ (Fr.new e) (hr.new e) (.lst (hr.noZ e) (hr.free e) upd_same hz (r.mono (Fr.new e))) q
theorem Ret.lstM (c : Ret K Z G H Qd Q) (hr : HR K Z G H) {p : Addr} {ds : List D} {vs : List V} (e : H p = none) (r : DVs K Z G H ds vs) (hz : vs.length ≤ sizeLine) (q : Qd (.ref p) (gup G p (.lst ds))) : Q (.ref p) (upd H p (.lst vs)) :=
  c (.ref p) _ _ _ (Fr.newT e) (hr.newT (m := .lst ds) e ⟨vs, upd_same, r.mono (Fr.newT e), hz⟩) (.ref p) q
theorem Ret.int (c : Ret K Z G H Qd Q) (hr : HR K Z G H) {i : Int} (q : Qd (.int i) G) : Q (.int i) H := c.here hr (.int i) q
theorem Ret.bl (c : Ret K Z G H Qd Q) (hr : HR K Z G H) {b : Bool} (q : Qd (.bl b) G) : Q (.bl b) H := c.here hr (.bl b) q
end

/-! ### names, constants -/
def dVar (i : Nat) : DE := fun ρ _ G Q => ∃ d, ρ[i]? = some (some d) ∧ Q d G
def dC (d : D) : DE := fun _ _ G Q => Q d G
section
variable {X : Cx} {W : WX}
theorem pd_of_var {i : Nat} {e : Expr} (h : PE X e (tVar i)) : PD X W e (dVar i) := PE.imp h fun σ H Q ⟨Z, ρ, x, G, Qd, sr, hr, ⟨d, e1, q⟩, c, _⟩ => by
  obtain ⟨v, e2, r⟩ := sr.at_ i d e1
  exact ⟨v, e2, Ret.here c hr r q⟩
theorem pd_var (i : Nat) {x : Str} {pos : Pos} (hN : X.N[i]? = some x := by rfl) (hv : Vis X.env.scope x := by first | exact Or.inl rfl | exact Or.inr (Or.inl rfl) | exact Or.inr (Or.inr rfl)) (hd : (x == ("__debug__" : Str)) = false := by decide)
    (hcd : (x == ("__classdict__" : Str)) = false := by decide) : PD X W (.Name x pos) (dVar i) := pd_of_var (pe_var hN hv hd hcd)
theorem pd_of_c {e : Expr} {z : D} {v : V} (h : PE X e (tC v)) (r : ∀ Z G H, DV X.K Z G H z v) : PD X W e (dC z) := PE.imp h fun σ H Q ⟨Z, ρ, x, G, Qd, sr, hr, q, c, _⟩ => Ret.here c hr (r Z G H) q
theorem pd_int {i j pos} : PD X W (.Constant (.int i) j pos) (dC (.int i)) := pd_of_c pe_int fun _ _ _ => .int _
theorem pd_bl {b j pos} : PD X W (.Constant (.bool b) j pos) (dC (.bl b)) := pd_of_c pe_bl fun _ _ _ => .bl _
theorem pd_non {j pos} : PD X W (.Constant .none j pos) (dC .non) := pd_of_c pe_non fun _ _ _ => .non
theorem pd_str {x j pos} : PD X W (.Constant (.str x) j pos) (dC (.str x)) := pd_of_c pe_str fun _ _ _ => .str _
/-- a module's int -/
theorem pd_gint {x : Str} {i : Int} {t : Tok} {pos : Pos} (hm : X.mg x = some (.int i t)) (hg : Gl X x := by rfl) (hd : (x == ("__debug__" : Str)) = false := by decide) : PD X W (.Name x pos) (dC (.int i)) := pd_of_c (pe_glob (v := .int i) hg hm ⟨t, rfl⟩ hd) fun _ _ _ => .int _
theorem pd_gstr {x : Str} {i : Str} {t : Tok} {pos : Pos} (hm : X.mg x = some (.str i t)) (hg : Gl X x := by rfl) (hd : (x == ("__debug__" : Str)) = false := by decide) : PD X W (.Name x pos) (dC (.str i)) := pd_of_c (pe_glob (v := .str i) hg hm ⟨t, rfl⟩ hd) fun _ _ _ => .str _
/-- a module's def or class as a value -/
theorem pd_gref {x : Str} {a : Addr} {pos : Pos} (hm : X.mg x = some (.ref a)) (hg : Gl X x := by rfl) (hd : (x == ("__debug__" : Str)) = false := by decide) : PD X W (.Name x pos) (dC (.ref a)) := pd_of_c (pe_glob (v := .ref a) hg hm rfl hd) fun _ _ _ => .ref _
/-- a built-in class as a value -/
theorem pd_ty {x : Str} {n : String} {pos : Pos} (hm : X.mg x = none) (hv : bootBuiltins x = some (.type n) := by decide +kernel) (hg : Gl X x := by rfl) (hn : x ≠ "__name__" := by decide) (hd : (x == ("__debug__" : Str)) = false := by decide) : PD X W (.Name x pos) (dC (.ty n)) :=
  pd_of_c (pe_bltn (v := .ty n) hg hm hv rfl hn hd) fun _ _ _ => .ty _
end

/-! ### operators -/
abbrev RD2 := D → D → GH → DK → Prop
def OpL (K : PySem.W.Frag) (r : R2) (rd : RD2) : Prop := ∀ Z z y vz vy G H Qd Q, HR K Z G H → DV K Z G H z vz → DV K Z G H y vy → rd z y G Qd → Ret K Z G H Qd Q → r vz vy H Q
def dOp (r : RD2) (a b : DE) : DE := fun ρ x G Q => a ρ x G fun z G1 => b ρ x G1 fun y G2 => r z y G2 Q
section
variable {X : Cx} {W : WX} {a b c : Expr} {da db dc : DE} {pos : Pos}
/-- two parts, then a step on values -/
theorem low_op {K : PySem.W.Frag} {r : R2} {rd : RD2} (hl : OpL K r rd) : ∀ σ H Q, lowE K W (dOp rd da db) σ H Q → tOp r (lowE K W da) (lowE K W db) σ H Q := fun σ H Q ⟨Z, ρ, x, G, Qd, sr, hr, h, c, xo⟩ =>
  ⟨Z, ρ, x, G, _, sr, hr, h, fun z v G1 H1 f1 r1 d1 q1 => ⟨Z, ρ, x, G1, _, sr.mono f1, r1, q1, fun y u G2 H2 f2 r2 d2 q2 => hl Z z y v u G2 H2 Qd Q r2 (d1.mono f2) d2 q2 (Ret.mono (f1.trans f2) c), xo.mono f1⟩, xo⟩
theorem pd_op {op : Operator} {r : R2} {rd : RD2} (ho : OpR X (binaryOp op) r) (hl : OpL X.K r rd) (ha : PD X W a da) (hb : PD X W b db) : PD X W (.BinOp a op b pos) (dOp rd da db) :=
  PE.imp (pe_op ho ha hb) (low_op hl)
theorem pd_cmp {op : CmpOp} {r : R2} {rd : RD2} (ho : OpR X (compareOp op) r) (hl : OpL X.K r rd) (ha : PD X W a da) (hb : PD X W b db) (hm : behindInMarks op b = false := by exact nomark _) : PD X W (.Compare a [op] [b] pos) (dOp rd da db) :=
  PE.imp (pe_cmpR ho ha hb hm) (low_op hl)
/-- as a test -/
def dTest (d : DE) : DT := fun ρ x G Q => d ρ x G fun z G1 => ∃ k, z = .bl k ∧ Q k G1
theorem low_test {K : PySem.W.Frag} {d : DE} {t : TE} (h : ∀ σ H Q, lowE K W d σ H Q → t σ H Q) : ∀ σ H Q, lowT K W (dTest d) σ H Q → tTest t σ H Q := fun σ H Q ⟨Z, ρ, x, G, Qd, sr, hr, q, c, xo⟩ =>
  h σ H _ ⟨Z, ρ, x, G, _, sr, hr, q, fun z v G1 H1 f1 r1 d1 ⟨k, e, q⟩ => by
    subst e
    cases d1
    exact ⟨k, rfl, c k G1 H1 f1 r1 q⟩, xo⟩
theorem pdt_cmp {op : CmpOp} {r : R2} {rd : RD2} (ho : OpR X (compareOp op) r) (hl : OpL X.K r rd) (ha : PD X W a da) (hb : PD X W b db) (hm : behindInMarks op b = false := by exact nomark _) : PDT X W (.Compare a [op] [b] pos) (dTest (dOp rd da db)) :=
  PT.imp (pt_cmpR ho ha hb hm) (low_test (low_op hl))
theorem pdt_val {e : Expr} {d : DE} (h : PD X W e d) (he : ∀ whole, isTrue e X.env whole = (do let v ← whole; standAt e.pos; holding [v] (truthy v)) := by intro _; rfl) : PDT X W e (dTest d) :=
  PT.imp (pt_val h he) (low_test (fun _ _ _ q => q))
/-- a op b op' c -/
def dChain (r r' : RD2) (a b c : DE) : DE := fun ρ x G Q => a ρ x G fun z G1 => b ρ x G1 fun y G2 => r z y G2 fun w G3 => ∃ k, w = .bl k ∧ (if k = true then c ρ x G3 (fun u G4 => r' y u G4 Q) else Q (.bl false) G3)
theorem low_chain {K : PySem.W.Frag} {r r' : R2} {rd rd' : RD2} (hl : OpL K r rd) (hl' : OpL K r' rd') : ∀ σ H Q, lowE K W (dChain rd rd' da db dc) σ H Q → tChain r r' (lowE K W da) (lowE K W db) (lowE K W dc) σ H Q := fun σ H Q ⟨Z, ρ, x, G, Qd, sr, hr, h, c, xo⟩ =>
    ⟨Z, ρ, x, G, _, sr, hr, h, fun z v G1 H1 f1 r1 d1 q1 => ⟨Z, ρ, x, G1, _, sr.mono f1, r1, q1, fun y u G2 H2 f2 r2 d2 q2 => hl Z z y v u G2 H2 _ _ r2 (d1.mono f2) d2 q2 fun w vw G3 H3 f3 r3 d3 ⟨k, e, q3⟩ => by
      subst e
      cases d3
      refine ⟨k, rfl, ?_⟩
      cases k with
      | false => exact c _ _ G3 H3 (f1.trans (f2.trans f3)) r3 (.bl false) q3
      | true => exact ⟨Z, ρ, x, G3, _, sr.mono (f1.trans (f2.trans f3)), r3, q3, fun y2 u2 G4 H4 f4 r4 d4 q4 => hl' Z y y2 u u2 G4 H4 Qd Q r4 (d2.mono (f3.trans f4)) d4 q4 (Ret.mono (f1.trans (f2.trans (f3.trans f4))) c), xo.mono (f1.trans (f2.trans f3))⟩, xo.mono f1⟩, xo⟩
theorem pd_chain {op op' : CmpOp} {r r' : R2} {rd rd' : RD2} (ho : OpR X (compareOp op) r) (hl : OpL X.K r rd) (ho' : OpR X (compareOp op') r') (hl' : OpL X.K r' rd') (ha : PD X W a da) (hb : PD X W b db) (hc : PD X W c dc)
    (hm : lastMarks [op, op'] [b, c] = false := by with_unfolding_all rfl) : PD X W (.Compare a [op, op'] [b, c] pos) (dChain rd rd' da db dc) := PE.imp (pe_chain ho ho' ha hb hc hm) (low_chain hl hl')
theorem pdt_chain {op op' : CmpOp} {r r' : R2} {rd rd' : RD2} (ho : OpR X (compareOp op) r) (hl : OpL X.K r rd) (ho' : OpR X (compareOp op') r') (hl' : OpL X.K r' rd') (ha : PD X W a da) (hb : PD X W b db) (hc : PD X W c dc)
    (hm : lastMarks [op, op'] [b, c] = false := by with_unfolding_all rfl) : PDT X W (.Compare a [op, op'] [b, c] pos) (dTest (dChain rd rd' da db dc)) := PT.imp (pt_chain ho ho' ha hb hc hm) (low_test (low_chain hl hl'))
end

/-! ### the operators on values -/
def rdInt (C : Int → Int → Prop) (g : Int → Int → D) : RD2 := fun z y G Q => ∃ i j, z = .int i ∧ y = .int j ∧ C i j ∧ Q (g i j) G
theorem opl_I0 {K : PySem.W.Frag} {g : Int → Int → V} {gd : Int → Int → D} (h : ∀ i j Z G H, DV K Z G H (gd i j) (g i j)) : OpL K (rI0 g) (rdInt (fun _ _ => True) gd) := by
  rintro Z z y vz vy G H Qd Q hr dz dy ⟨i, j, rfl, rfl, _, q⟩ c
  cases dz; cases dy
  exact ⟨i, j, rfl, rfl, Ret.here c hr (h i j Z G H) q⟩
theorem opl_I {K : PySem.W.Frag} {C : Int → Int → Prop} {g : Int → Int → V} {gd : Int → Int → D} (h : ∀ i j Z G H, DV K Z G H (gd i j) (g i j)) : OpL K (rI C g) (rdInt C gd) := by
  rintro Z z y vz vy G H Qd Q hr dz dy ⟨i, j, rfl, rfl, hc, q⟩ c
  cases dz; cases dy
  exact ⟨i, j, rfl, rfl, hc, Ret.here c hr (h i j Z G H) q⟩
/-- + of ints, texts, tuples, lists -/
def rdAdd : RD2 := fun z y G Q => match z, y with
  | .int i, .int j => Q (.int (i + j)) G
  | .str a, .str b => a.length + b.length ≤ sizeLine ∧ Q (.str (a ++ b)) G
  | .tup a, .tup b => a.length + b.length ≤ sizeLine ∧ Q (.tup (a ++ b)) G
  | .lst a, .lst b => a.length + b.length ≤ sizeLine ∧ Q (.lst (a ++ b)) G
  | _, _ => False
def rAddAll (K : PySem.W.Frag) : R2 := fun x y H Q => (rI0 fun i j => V.int (i + j)) x y H Q ∨ (∃ i j, x = .str i ∧ y = .str j ∧ i.length + j.length ≤ sizeLine ∧ Q (.str (i ++ j)) H) ∨ rCatA K x y H Q ∨ rCat x y H Q
theorem opr_add {X : Cx} : OpR X (binaryOp .Add) (rAddAll X.K) := op_add.or (op_add_str.or (op_catA.or op_cat))
theorem opl_add {K : PySem.W.Frag} : OpL K (rAddAll K) rdAdd := by
  intro Z z y vz vy G H Qd Q hr dz dy h c
  unfold rdAdd at h
  split at h
  · cases dz; cases dy
    exact .inl ⟨_, _, rfl, rfl, Ret.int c hr h⟩
  · cases dz; cases dy
    exact .inr (.inl ⟨_, _, rfl, rfl, h.1, Ret.here c hr (.str _) h.2⟩)
  · cases dz with
    | tup n1 g1 h1 z1 r1 =>
      cases dy with
      | tup n2 g2 h2 z2 r2 =>
        rename_i a vs1 b vs2
        have l1 := r1.length
        have l2 := r2.length
        refine .inr (.inr (.inl ⟨a, b, vs1, vs2, rfl, rfl, SqT.of h1, SqT.of h2, by omega, fun e => ?_, fun _ e => ?_, fun _ _ p hp => ?_⟩))
        · subst e
          cases r1
          exact Ret.here c hr (.tup n2 g2 h2 z2 r2) h.2
        · subst e
          cases r2
          refine Ret.here c hr ?_ h.2
          rw [List.append_nil]
          exact .tup n1 g1 h1 z1 r1
        · exact Ret.tup c hr hp (r1.append r2) (by rw [List.length_append]; omega) h.2
  · cases dz with
    | lst n1 g1 h1 z1 r1 =>
      cases dy with
      | lst n2 g2 h2 z2 r2 =>
        rename_i a vs1 b vs2
        have l1 := r1.length
        have l2 := r2.length
        exact .inr (.inr (.inr ⟨a, b, vs1, vs2, rfl, rfl, h1, h2, by omega, fun p hp => Ret.lst c hr hp (r1.append r2) (by rw [List.length_append]; omega) h.2⟩))
  · exact h.elim
def rdSub : RD2 := rdInt (fun _ _ => True) fun i j => .int (i - j)
theorem opl_sub {K : PySem.W.Frag} : OpL K (rI0 fun i j => V.int (i - j)) rdSub := opl_I0 fun _ _ _ _ _ => .int _
theorem tuple_mul1 (l : Addr) (items : Array Value) (n : Nat) (dd : Option Addr) (sl : Array (Option Value)) (u : Tok) :
    Meets (Builtin.«tuple.__mul__» ⟨[.ref l, .int 1 u], []⟩) (fun _ R s => s.heap.get? l = some { cls := .type "tuple", dict := dd, data := .seq items n, slots := sl } ∧
      R (.ok (.ret (Value.ref l))) s) :=
  .of_wp fun prog w A R s h => by
    obtain ⟨hp, g, d, tk, os⟩ := s
    obtain ⟨hl, h⟩ := h
    have f1 := AutoSeq1.idx_int
    have c0 : (decide ((1 : Int) < -(2 ^ 63)) || decide ((1 : Int) ≥ 2 ^ 63)) = false := by decide
    have c1 : (items.isEmpty || (1 : Int) == 1) = true := by simp
    wp_walk using wpAny_loadPart' hl
    repeat (first
      | (refine wpAny_ite_false (decide_eq_false (by rw [c0]; exact Bool.false_ne_true)) ?_; wp_walk using wpAny_loadPart' hl)
      | (refine wpAny_ite_true (decide_eq_true (by rw [c1])) ?_; wp_walk using wpAny_loadPart' hl))
    exact ⟨_, rfl, h⟩
def rRepT1 (K : PySem.W.Frag) : R2 := fun x y H Q => ∃ l xs, x = .ref l ∧ y = .int 1 ∧ SqT K H l xs ∧ Q (.ref l) H
theorem op_repT1 {X : Cx} : OpR X (binaryOp .Mult) (rRepT1 X.K) := by
  intro pins s σ H x y v u Q I rx ry h
  obtain ⟨l, xs, rfl, rfl, hT, q⟩ := h
  cases rx
  obtain ⟨t, rfl⟩ := ry
  obtain ⟨its, r, ⟨⟨cls, dd, data, sl⟩, ho, hc, n, hd⟩, hs⟩ := I.tuple hT
  simp only at hc hd
  subst hc hd
  refine wpAny_binaryOp_repeat_ref (T := "tuple") (U := "int") (by decide) ⟨_, ho, rfl⟩ (fun s' => typeIs_int s' 1 t) noFill_tuple_mul F.fills_int_mul F.slot_int_rmul repeat_tuple F.slot_int_index.lookup
    (call_meets F.slot_int_rmul (typeIs_int s 1 t) F.entry_int_rmul (F.args_int_rmul_2 _ _) (int_rmul_tuple 1 t l its.toArray n dd sl)
      ⟨ho, rfl, ⟨_, ho, rfl⟩, call_meets F.slot_tuple_mul ⟨_, ho, rfl⟩ F.entry_tuple_mul (F.args_tuple_mul_2 _ _) (tuple_mul1 l its.toArray n dd sl t) ⟨ho, ?_⟩⟩)
  exact ⟨.ref l, H, I, rfl, q⟩
/-- * of ints; of a list and an int -/
def rdMul : RD2 := fun z y G Q => match z, y with
  | .int i, .int j => CMul i j ∧ Q (.int (i * j)) G
  | .lst a, .int k => -(2 ^ 63) ≤ k ∧ k < 2 ^ 63 ∧ a.length * k.toNat ≤ sizeLine ∧ Q (.lst (List.replicate k.toNat a).flatten) G
  | .tup a, .int k => a ≠ [] ∧ 1 ≤ k ∧ k ≤ 1000 ∧ a.length ≤ 1000 ∧ Q (.tup (List.replicate k.toNat a).flatten) G
  | _, _ => False
def rMulAll (K : PySem.W.Frag) : R2 := fun x y H Q => (rI CMul fun i j => V.int (i * j)) x y H Q ∨ rRep x y H Q ∨ rRepT K x y H Q ∨ rRepT1 K x y H Q
theorem opr_mul {X : Cx} : OpR X (binaryOp .Mult) (rMulAll X.K) := op_mul.or (op_rep.or (op_repT.or op_repT1))
theorem flat_len {α : Type} (k : Nat) (l : List α) : (List.replicate k l).flatten.length = k * l.length := by
  induction k with
  | zero => simp
  | succ k ih => rw [List.replicate_succ, List.flatten_cons, List.length_append, ih, Nat.succ_mul, Nat.add_comm]
theorem opl_mul {K : PySem.W.Frag} : OpL K (rMulAll K) rdMul := by
  intro Z z y vz vy G H Qd Q hr dz dy h c
  unfold rdMul at h
  split at h
  · cases dz; cases dy
    exact .inl ⟨_, _, rfl, rfl, h.1, Ret.int c hr h.2⟩
  · cases dy
    cases dz with
    | lst n1 g1 h1 z1 r1 =>
      rename_i k a vs
      have l1 := r1.length
      obtain ⟨h1', h2', h3', q⟩ := h
      exact .inr (.inl ⟨a, k, vs, rfl, rfl, h1, h1', h2', by rw [← l1]; exact h3', fun p hp => Ret.lst c hr hp (r1.rep _) (by rw [flat_len, ← l1, Nat.mul_comm]; exact h3') q⟩)
  · cases dy
    cases dz with
    | tup n1 g1 h1 z1 r1 =>
      rename_i k a vs
      have l1 := r1.length
      obtain ⟨h0', h1', h2', h3', q⟩ := h
      by_cases hk1 : k = 1
      · subst hk1
        have ef : ∀ L : List D, (List.replicate (1 : Int).toNat L).flatten = L := fun L => by simp
        refine .inr (.inr (.inr ⟨a, vs, rfl, rfl, SqT.of h1, ?_⟩))
        rw [ef] at q
        exact c _ _ G H (Fr.refl G H) hr (.tup n1 g1 h1 z1 r1) q
      refine .inr (.inr (.inl ⟨a, k, vs, rfl, rfl, SqT.of h1, fun e => h0' ?_, by omega, h2', by rw [← l1]; exact h3', fun p hp => Ret.tup c hr hp (r1.rep _) ?_ q⟩))
      · subst e; cases r1; rfl
      · have hk : k.toNat ≤ 1000 := by omega
        have hv : vs.length ≤ 1000 := by omega
        rw [flat_len]
        exact Nat.le_trans (Nat.mul_le_mul hk hv) (by decide)
  · exact h.elim
def rdLt : RD2 := rdInt (fun _ _ => True) fun i j => .bl (decide (i < j))
def rdLe : RD2 := rdInt (fun _ _ => True) fun i j => .bl (decide (i ≤ j))
def rdGt : RD2 := rdInt (fun _ _ => True) fun i j => .bl (decide (j < i))
def rdGe : RD2 := rdInt (fun _ _ => True) fun i j => .bl (decide (j ≤ i))
theorem opl_lt {K : PySem.W.Frag} : OpL K (rI0 fun i j => V.bl (decide (i < j))) rdLt := opl_I0 fun _ _ _ _ _ => .bl _
theorem opl_le {K : PySem.W.Frag} : OpL K (rI0 fun i j => V.bl (decide (i ≤ j))) rdLe := opl_I0 fun _ _ _ _ _ => .bl _
theorem opl_gt {K : PySem.W.Frag} : OpL K (rI0 fun i j => V.bl (decide (j < i))) rdGt := opl_I0 fun _ _ _ _ _ => .bl _
theorem opl_ge {K : PySem.W.Frag} : OpL K (rI0 fun i j => V.bl (decide (j ≤ i))) rdGe := opl_I0 fun _ _ _ _ _ => .bl _
def rdFdiv : RD2 := rdInt CDiv fun i j => .int (i / j)
def rdMod : RD2 := rdInt (fun _ j => 0 < j) fun i j => .int (i % j)
def rdPow : RD2 := rdInt CPow fun i j => .int (i ^ j.toNat)
theorem opl_fdiv {K : PySem.W.Frag} : OpL K (rI CDiv fun i j => V.int (i / j)) rdFdiv := opl_I fun _ _ _ _ _ => .int _
theorem opl_mod {K : PySem.W.Frag} : OpL K (rI (fun _ j => 0 < j) fun i j => V.int (i % j)) rdMod := opl_I fun _ _ _ _ _ => .int _
theorem opl_pow {K : PySem.W.Frag} : OpL K (rI CPow fun i j => V.int (i ^ j.toNat)) rdPow := opl_I fun _ _ _ _ _ => .int _
/-- is None, is not None -/
def isNon : D → Bool
  | .non => true
  | _ => false
def rdIsN : RD2 := fun z y G Q => y = .non ∧ Q (.bl (isNon z)) G
def rdNotN : RD2 := fun z y G Q => y = .non ∧ Q (.bl (!isNon z)) G
theorem isNon_dv {K : PySem.W.Frag} {Z : Addr → Prop} {G : GH} {H : Hp} {z : D} {v : V} (r : DV K Z G H z v) : isNon z = decide (v = .non) := by
  cases r <;> rfl
theorem opl_isN {K : PySem.W.Frag} : OpL K (fun x y H Q => y = .non ∧ Q (.bl (decide (x = .non))) H) rdIsN := by
  rintro Z z y vz vy G H Qd Q hr dz dy ⟨rfl, q⟩ c
  cases dy
  rw [isNon_dv dz] at q
  exact ⟨rfl, Ret.bl c hr q⟩
theorem opl_notN {K : PySem.W.Frag} : OpL K (fun x y H Q => y = .non ∧ Q (.bl (!decide (x = .non))) H) rdNotN := by
  rintro Z z y vz vy G H Qd Q hr dz dy ⟨rfl, q⟩ c
  cases dy
  rw [isNon_dv dz] at q
  exact ⟨rfl, Ret.bl c hr q⟩
end TD
/-! # TD, 3: and, or, not, displays, subscripts, slices, ==, calls -/
namespace TD
open PySem L2

/-! ### and, or, not, if-else -/
def dAndV (a b : DE) : DE := fun ρ x G Q => a ρ x G fun z G1 => ∃ k, z = .bl k ∧ if k = true then b ρ x G1 Q else Q (.bl false) G1
def dOrV (a b : DE) : DE := fun ρ x G Q => a ρ x G fun z G1 => ∃ k, z = .bl k ∧ if k = true then Q (.bl true) G1 else b ρ x G1 Q
def dNotV (a : DE) : DE := fun ρ x G Q => a ρ x G fun z G1 => ∃ k, z = .bl k ∧ Q (.bl (!k)) G1
def dAnd (a b : DT) : DT := fun ρ x G Q => a ρ x G fun k G1 => if k = true then b ρ x G1 Q else Q false G1
def dOr (a b : DT) : DT := fun ρ x G Q => a ρ x G fun k G1 => if k = true then Q true G1 else b ρ x G1 Q
def dNot (a : DT) : DT := fun ρ x G Q => a ρ x G fun k G1 => Q (!k) G1
def dIf (t : DT) (a b : DE) : DE := fun ρ x G Q => t ρ x G fun k G1 => if k = true then a ρ x G1 Q else b ρ x G1 Q
section
variable {X : Cx} {W : WX} {a b c e : Expr} {es rest : List Expr} {da db de : DE} {ta tb : DT} {pos : Pos}
theorem pd_one {op} (h : PD X W a da) : PD X W (.BoolOp op [a] pos) da := pe_one h
theorem pd_and (ha : PD X W a da) (hb : PD X W (.BoolOp .And (b :: rest) pos) db) : PD X W (.BoolOp .And (a :: b :: rest) pos) (dAndV da db) :=
  PE.imp (pe_and ha hb) fun σ H Q ⟨Z, ρ, x, G, Qd, sr, hr, h, c, xo⟩ => ⟨Z, ρ, x, G, _, sr, hr, h, fun z v G1 H1 f1 r1 d1 ⟨k, e, q⟩ => by
    subst e
    cases d1
    refine ⟨k, rfl, ?_⟩
    cases k with
    | true => exact ⟨Z, ρ, x, G1, Qd, sr.mono f1, r1, q, Ret.mono f1 c, xo.mono f1⟩
    | false => exact c _ _ G1 H1 f1 r1 (.bl false) q, xo⟩
theorem pd_or (ha : PD X W a da) (hb : PD X W (.BoolOp .Or (b :: rest) pos) db) : PD X W (.BoolOp .Or (a :: b :: rest) pos) (dOrV da db) :=
  PE.imp (pe_or ha hb) fun σ H Q ⟨Z, ρ, x, G, Qd, sr, hr, h, c, xo⟩ => ⟨Z, ρ, x, G, _, sr, hr, h, fun z v G1 H1 f1 r1 d1 ⟨k, e, q⟩ => by
    subst e
    cases d1
    refine ⟨k, rfl, ?_⟩
    cases k with
    | true => exact c _ _ G1 H1 f1 r1 (.bl true) q
    | false => exact ⟨Z, ρ, x, G1, Qd, sr.mono f1, r1, q, Ret.mono f1 c, xo.mono f1⟩, xo⟩
theorem pd_not (ha : PD X W a da) : PD X W (.UnaryOp .Not a pos) (dNotV da) :=
  PE.imp (pe_not ha) fun σ H Q ⟨Z, ρ, x, G, Qd, sr, hr, h, c, xo⟩ => ⟨Z, ρ, x, G, _, sr, hr, h, fun z v G1 H1 f1 r1 d1 ⟨k, e, q⟩ => by
    subst e
    cases d1
    exact ⟨k, rfl, c _ _ G1 H1 f1 r1 (.bl _) q⟩, xo⟩
theorem pdw_and1 (ha : PDT X W a ta) : PDW X W (.BoolOp .And [a] pos) ta := pw_and1 ha
theorem pdw_or1 (ha : PDT X W a ta) : PDW X W (.BoolOp .Or [a] pos) ta := pw_or1 ha
theorem pdw_and (ha : PDT X W a ta) (hb : PDW X W (.BoolOp .And (b :: rest) pos) tb) : PDW X W (.BoolOp .And (a :: b :: rest) pos) (dAnd ta tb) :=
  PW.imp (pw_and ha hb) fun σ H Q ⟨Z, ρ, x, G, Qd, sr, hr, h, c, xo⟩ => ⟨Z, ρ, x, G, _, sr, hr, h, fun k G1 H1 f1 r1 q => by
    cases k with
    | true => exact ⟨Z, ρ, x, G1, Qd, sr.mono f1, r1, q, fun b G2 H2 f2 => c b G2 H2 (f1.trans f2), xo.mono f1⟩
    | false => exact c _ G1 H1 f1 r1 q, xo⟩
theorem pdw_or (ha : PDT X W a ta) (hb : PDW X W (.BoolOp .Or (b :: rest) pos) tb) : PDW X W (.BoolOp .Or (a :: b :: rest) pos) (dOr ta tb) :=
  PW.imp (pw_or ha hb) fun σ H Q ⟨Z, ρ, x, G, Qd, sr, hr, h, c, xo⟩ => ⟨Z, ρ, x, G, _, sr, hr, h, fun k G1 H1 f1 r1 q => by
    cases k with
    | true => exact c _ G1 H1 f1 r1 q
    | false => exact ⟨Z, ρ, x, G1, Qd, sr.mono f1, r1, q, fun b G2 H2 f2 => c b G2 H2 (f1.trans f2), xo.mono f1⟩, xo⟩
theorem pdt_w (h : PDW X W a ta) : PDT X W a ta := PW.pt h
theorem pdt_not (ha : PDT X W a ta) : PDT X W (.UnaryOp .Not a pos) (dNot ta) :=
  PT.imp (pt_not ha) fun σ H Q ⟨Z, ρ, x, G, Qd, sr, hr, h, c, xo⟩ => ⟨Z, ρ, x, G, _, sr, hr, h, fun k G1 H1 f1 r1 q => c _ G1 H1 f1 r1 q, xo⟩
theorem pd_ifExp (hc : PDT X W c ta) (ha : PD X W a da) (hb : PD X W b db) : PD X W (.IfExp c a b pos) (dIf ta da db) :=
  PE.imp (pe_ifExp hc ha hb) fun σ H Q ⟨Z, ρ, x, G, Qd, sr, hr, h, c, xo⟩ => ⟨Z, ρ, x, G, _, sr, hr, h, fun k G1 H1 f1 r1 q => by
    cases k with
    | true => exact ⟨Z, ρ, x, G1, Qd, sr.mono f1, r1, q, Ret.mono f1 c, xo.mono f1⟩
    | false => exact ⟨Z, ρ, x, G1, Qd, sr.mono f1, r1, q, Ret.mono f1 c, xo.mono f1⟩, xo⟩

/-! ### argument lists, displays -/
def dNil : DA := fun _ _ G Q => Q [] G
def dCons (a : DE) (t : DA) : DA := fun ρ x G Q => a ρ x G fun z G1 => t ρ x G1 fun zs G2 => Q (z :: zs) G2
theorem pda_nil : PDA X W [] dNil := PA.imp pa_nil fun σ H Q ⟨Z, ρ, x, G, Qd, sr, hr, h, c, xo⟩ => c [] [] G H (Fr.refl G H) hr .nil h
theorem low_cons {K : PySem.W.Frag} {t : DA} : ∀ σ H Q, lowA K W (dCons da t) σ H Q → tCons (lowE K W da) (lowA K W t) σ H Q := fun σ H Q ⟨Z, ρ, x, G, Qd, sr, hr, h, c, xo⟩ =>
  ⟨Z, ρ, x, G, _, sr, hr, h, fun z v G1 H1 f1 r1 d1 q1 => ⟨Z, ρ, x, G1, _, sr.mono f1, r1, q1, fun zs vs G2 H2 f2 r2 d2 q2 => c (z :: zs) (v :: vs) G2 H2 (f1.trans f2) r2 (.cons (d1.mono f2) d2) q2, xo.mono f1⟩, xo⟩
theorem pda_cons {t : DA} (ha : PD X W a da) (hr : PDA X W es t) (hs : starEach (a :: es) X.env = (false, eval a X.env) :: starEach es X.env := by rfl) : PDA X W (a :: es) (dCons da t) := PA.imp (pa_cons ha hr hs) low_cons
/-- *e, a tuple or a list -/
def dStar (a : DE) (t : DA) : DA := fun ρ x G Q => a ρ x G fun z G1 => match z with
  | .tup xs => t ρ x G1 fun zs G2 => Q (xs ++ zs) G2
  | .lst xs => t ρ x G1 fun zs G2 => Q (xs ++ zs) G2
  | _ => False
theorem pda_star {t : DA} {p : Pos} (ha : PD X W a da) (hr : PDA X W es t) (hs : starEach (.Starred a p :: es) X.env = (true, eval a X.env) :: starEach es X.env := by rfl) : PDA X W (.Starred a p :: es) (dStar da t) :=
  PA.imp (StX.pa_star ha hr hs) fun σ H Q ⟨Z, ρ, x, G, Qd, sr, hr, h, c, xo⟩ => ⟨Z, ρ, x, G, _, sr, hr, h, fun z v G1 H1 f1 r1 d1 q1 => by
    cases d1 with
    | tup n1 g1 h1 z1 r2 => exact ⟨_, _, rfl, .inl (SqT.of h1), Z, ρ, x, G1, _, sr.mono f1, r1, q1, fun zs vs G2 H2 f2 r3 d2 q2 => c _ _ G2 H2 (f1.trans f2) r3 ((r2.mono f2).append d2) q2, xo.mono f1⟩
    | lst n1 g1 h1 z1 r2 => exact ⟨_, _, rfl, .inr (SqL.of h1), Z, ρ, x, G1, _, sr.mono f1, r1, q1, fun zs vs G2 H2 f2 r3 d2 q2 => c _ _ G2 H2 (f1.trans f2) r3 ((r2.mono f2).append d2) q2, xo.mono f1⟩
    | _ => exact q1.elim, xo⟩
def dTup (t : DA) : DE := fun ρ x G Q => t ρ x G fun zs G1 => zs.length ≤ sizeLine ∧ Q (.tup zs) G1
def dLst (t : DA) : DE := fun ρ x G Q => t ρ x G fun zs G1 => zs.length ≤ sizeLine ∧ Q (.lst zs) G1
/-- a list that is going to change -/
def dLstM (t : DA) : DE := fun ρ x G Q => t ρ x G fun zs G1 => zs.length ≤ sizeLine ∧ ∀ p, G1 p = none → Q (.ref p) (gup G1 p (.lst zs))
theorem pd_tup {t : DA} {k} (h : PDA X W es t) : PD X W (.Tuple es k pos) (dTup t) := PE.imp (pe_tup h) fun σ H Q ⟨Z, ρ, x, G, Qd, sr, hr, h, c, xo⟩ =>
  ⟨Z, ρ, x, G, _, sr, hr, h, fun zs vs G1 H1 f1 r1 d1 ⟨hz, q⟩ => ⟨by rw [← d1.length]; exact hz, fun p hp => Ret.tup (Ret.mono f1 c) r1 hp d1 (by rw [← d1.length]; exact hz) q⟩, xo⟩
theorem pd_lst {t : DA} (h : PDA X W es t) : PD X W (.List es pos) (dLst t) := PE.imp (pe_lst h) fun σ H Q ⟨Z, ρ, x, G, Qd, sr, hr, h, c, xo⟩ =>
  ⟨Z, ρ, x, G, _, sr, hr, h, fun zs vs G1 H1 f1 r1 d1 ⟨hz, q⟩ => ⟨by rw [← d1.length]; exact hz, fun p hp => Ret.lst (Ret.mono f1 c) r1 hp d1 (by rw [← d1.length]; exact hz) q⟩, xo⟩
theorem pd_lstM {t : DA} (h : PDA X W es t) : PD X W (.List es pos) (dLstM t) := PE.imp (pe_lst h) fun σ H Q ⟨Z, ρ, x, G, Qd, sr, hr, h, c, xo⟩ =>
  ⟨Z, ρ, x, G, _, sr, hr, h, fun zs vs G1 H1 f1 r1 d1 ⟨hz, q⟩ => ⟨by rw [← d1.length]; exact hz, fun p hp => Ret.lstM (Ret.mono f1 c) r1 hp d1 (by rw [← d1.length]; exact hz) (q p (r1.free hp))⟩, xo⟩
end

/-! ### subscripts -/
theorem atI_map {α β : Type} (f : α → β) (xs : List α) (i : Int) : atI (xs.map f) i = (atI xs i).map f := by
  unfold atI
  rw [List.length_map]
  cases ixN xs.length i with
  | none => rfl
  | some j => simp
theorem DVs.atI {K : PySem.W.Frag} {Z : Addr → Prop} {G : GH} {H : Hp} {ds : List D} {vs : List V} {i : Int} {d : D} (r : DVs K Z G H ds vs) (h : L2.atI ds i = some d) : ∃ v, L2.atI vs i = some v ∧ DV K Z G H d v := by
  unfold L2.atI at h ⊢
  rw [← r.length]
  cases e : ixN ds.length i with
  | none => rw [e] at h; cases h
  | some j =>
    rw [e] at h
    exact r.get (show ds[j]? = some d from h)
def rdIx : RD2 := fun z y G Q => match z, y with
  | .tup xs, .int i => ∃ d, atI xs i = some d ∧ Q d G
  | .lst xs, .int i => ∃ d, atI xs i = some d ∧ Q d G
  | .scr ns, .int i => ∃ d, atI ns i = some d ∧ Q (.int d) G
  | .ref a, .int i => ∃ xs d, G a = some (.lst xs) ∧ atI xs i = some d ∧ Q d G
  | .str w, .int i => w.length ≤ sizeLine ∧ ∃ c, atI w.cps.toList i = some c ∧ Q (.str ⟨#[c]⟩) G
  | _, _ => False
theorem opl_ix {K : PySem.W.Frag} : OpL K (rIx K) rdIx := by
  intro Z z y vz vy G H Qd Q hr dz dy h c
  unfold rdIx at h
  split at h
  · cases dy
    cases dz with
    | tup n1 g1 h1 z1 r1 =>
      obtain ⟨d, e, q⟩ := h
      obtain ⟨v, e2, r2⟩ := r1.atI e
      exact .inr (.inl ⟨_, _, _, v, rfl, rfl, SqT.of h1, e2, Ret.here c hr r2 q⟩)
  · cases dy
    cases dz with
    | lst n1 g1 h1 z1 r1 =>
      obtain ⟨d, e, q⟩ := h
      obtain ⟨v, e2, r2⟩ := r1.atI e
      exact .inl ⟨_, _, _, v, rfl, rfl, SqL.of h1, e2, Ret.here c hr r2 q⟩
  · cases dy
    cases dz with
    | scr h1 z1 =>
      obtain ⟨d, e, q⟩ := h
      exact .inl ⟨_, _, _, .int d, rfl, rfl, h1.seq, by rw [atI_map, e] <;> rfl, Ret.int c hr q⟩
  · cases dy
    cases dz
    obtain ⟨xs, d, g, e, q⟩ := h
    obtain ⟨vs, h1, r1, _⟩ := hr.at_ _ _ g
    obtain ⟨v, e2, r2⟩ := r1.atI e
    exact .inl ⟨_, _, _, v, rfl, rfl, SqL.of h1, e2, Ret.here c hr r2 q⟩
  · cases dy
    cases dz
    obtain ⟨hz, ch, e, q⟩ := h
    exact .inr (.inr ⟨_, _, ch, rfl, rfl, hz, e, Ret.here c hr (.str _) q⟩)
  · exact h.elim
section
variable {X : Cx} {W : WX} {a b c e : Expr} {da db de : DE} {pos : Pos}
theorem pd_ix (ha : PD X W a da) (hb : PD X W b db) (hs : PlainIx b := by exact fun _ _ => rfl) : PD X W (.Subscript a b pos) (dOp rdIx da db) := PE.imp (pe_ix ix_seq ha hb hs) (low_op opl_ix)
end
/-! ### slices -/
def cutX {α : Type} (xs : List α) (lo hi : Option Int) : List α := (xs.drop (HT.sIx xs.length 0 lo)).take (HT.sIx xs.length xs.length hi - HT.sIx xs.length 0 lo)
theorem cutX_map {α β : Type} (f : α → β) (xs : List α) (lo hi : Option Int) : cutX (xs.map f) lo hi = (cutX xs lo hi).map f := by
  unfold cutX
  rw [List.length_map, List.map_take, List.map_drop]
theorem DVs.cut {K : PySem.W.Frag} {Z : Addr → Prop} {G : GH} {H : Hp} {ds : List D} {vs : List V} (r : DVs K Z G H ds vs) (lo hi : Option Int) : DVs K Z G H (cutX ds lo hi) (cutV vs lo hi) := by
  unfold cutX cutV
  rw [← r.length]
  exact (r.drop _).take _
theorem cutX_whole {α : Type} {xs : List α} {lo hi : Option Int} (h1 : HT.sIx xs.length 0 lo = 0) (h2 : HT.sIx xs.length xs.length hi = xs.length) : cutX xs lo hi = xs := by
  unfold cutX
  rw [h1, h2, List.drop_zero, Nat.sub_zero, List.take_length]
abbrev DO := Rho → XD → GH → (Option Int → GH → Prop) → Prop
def lowO (K : PySem.W.Frag) (W : WX) (d : DO) : TO := fun σ H Q => ∃ (Z : Addr → Prop) (ρ : Rho) (x : XD) (G : GH) (Qd : Option Int → GH → Prop), SR K Z G H ρ σ ∧ HR K Z G H ∧ d ρ x G Qd ∧
  (∀ o G' H', Fr G H G' H' → HR K Z G' H' → Qd o G' → Q o H') ∧ XOk K Z W G H σ x
abbrev PDO (X : Cx) (W : WX) (e : Option Expr) (d : DO) : Prop := PO X e (lowO X.K W d)
def dNoPart : DO := fun _ _ G Q => Q none G
def dPart (a : DE) : DO := fun ρ x G Q => a ρ x G fun z G1 => ∃ i, z = .int i ∧ Q (some i) G1
theorem PO.imp {X : Cx} {e : Option Expr} {t t' : TO} (h : PO X e t) (i : ∀ σ H Q, t' σ H Q → t σ H Q) : PO X e t' := ⟨fun pins s σ H Q I q => h.run pins s σ H Q I (i σ H Q q)⟩
def rdSl : D → Option Int → Option Int → GH → DK → Prop := fun z lo hi G Q => match z with
  | .tup xs => Q (.tup (cutX xs lo hi)) G
  | .lst xs => Q (.lst (cutX xs lo hi)) G
  | .scr ns => Q (.lst ((cutX ns lo hi).map D.int)) G
  | .ref a => ∃ xs, G a = some (.lst xs) ∧ Q (.lst (cutX xs lo hi)) G
  | .str w => w.length ≤ sizeLine ∧ Q (.str (cutS w lo hi)) G
  | _ => False
def dSl (a : DE) (l h : DO) : DE := fun ρ x G Q => a ρ x G fun z G1 => l ρ x G1 fun lo G2 => h ρ x G2 fun hi G3 => rdSl z lo hi G3 Q
def rSlAll (K : PySem.W.Frag) : V → Option Int → Option Int → Hp → VK → Prop := fun x lo hi H Q => rSlA K x lo hi H Q ∨ rSlL K x lo hi H Q ∨ rSlS x lo hi H Q
theorem slr_all {X : Cx} : SlR X (rSlAll X.K) := sl_tupA.or (sl_list.or sl_str)
theorem sll_all {K : PySem.W.Frag} {Z : Addr → Prop} {z : D} {v : V} {lo hi : Option Int} {G : GH} {H : Hp} {Qd : DK} {Q : VK} (hr : HR K Z G H) (dz : DV K Z G H z v) (h : rdSl z lo hi G Qd) (c : Ret K Z G H Qd Q) : rSlAll K v lo hi H Q := by
  unfold rdSl at h
  split at h
  · cases dz with
    | tup n1 g1 h1 z1 r1 =>
      refine .inl ⟨_, _, rfl, SqT.of h1, fun ⟨e1, e2⟩ => ?_, fun _ p hp => Ret.tup c hr hp (r1.cut lo hi) (Nat.le_trans (cutV_length _ _ _) z1) h⟩
      rw [← r1.length] at e1 e2
      rw [cutX_whole e1 e2] at h
      exact Ret.here c hr (.tup n1 g1 h1 z1 r1) h
  · cases dz with
    | lst n1 g1 h1 z1 r1 => exact .inr (.inl ⟨_, _, rfl, SqL.of h1, fun p hp => Ret.lst c hr hp (r1.cut lo hi) (Nat.le_trans (cutV_length _ _ _) z1) h⟩)
  · cases dz with
    | scr h1 z1 =>
      refine .inr (.inl ⟨_, _, rfl, h1.seq, fun p hp => Ret.lst c hr hp ?_ (Nat.le_trans (cutV_length _ _ _) (by rw [List.length_map]; exact z1)) h⟩)
      rw [← cutX_map]
      exact (DVs.of_ints _).cut lo hi
  · cases dz
    obtain ⟨xs, g, q⟩ := h
    obtain ⟨vs, h1, r1, z1⟩ := hr.at_ _ _ g
    exact .inr (.inl ⟨_, _, rfl, SqL.of h1, fun p hp => Ret.lst c hr hp (r1.cut lo hi) (Nat.le_trans (cutV_length _ _ _) z1) q⟩)
  · cases dz
    exact .inr (.inr ⟨_, rfl, h.1, Ret.here c hr (.str _) h.2⟩)
  · exact h.elim
section
variable {X : Cx} {W : WX} {a : Expr} {l u : Option Expr} {da : DE} {dl du : DO} {pos p2 : Pos}
theorem pdo_none : PDO X W none dNoPart := PO.imp po_none fun σ H Q ⟨Z, ρ, x, G, Qd, sr, hr, h, c, xo⟩ => c none G H (Fr.refl G H) hr h
theorem pdo_some (ha : PD X W a da) : PDO X W (some a) (dPart da) := PO.imp (po_some ha) fun σ H Q ⟨Z, ρ, x, G, Qd, sr, hr, h, c, xo⟩ => ⟨Z, ρ, x, G, _, sr, hr, h, fun z v G1 H1 f1 r1 d1 ⟨i, e, q⟩ => by
  subst e
  cases d1
  exact ⟨i, rfl, c _ G1 H1 f1 r1 q⟩, xo⟩
theorem pd_slice (ha : PD X W a da) (hl : PDO X W l dl) (hu : PDO X W u du) : PD X W (.Subscript a (.Slice l u none p2) pos) (dSl da dl du) :=
  PE.imp (pe_slice slr_all ha hl hu) fun σ H Q ⟨Z, ρ, x, G, Qd, sr, hr, h, c, xo⟩ => ⟨Z, ρ, x, G, _, sr, hr, h, fun z v G1 H1 f1 r1 d1 q1 =>
    ⟨Z, ρ, x, G1, _, sr.mono f1, r1, q1, fun lo G2 H2 f2 r2 q2 => ⟨Z, ρ, x, G2, _, sr.mono (f1.trans f2), r2, q2, fun hi G3 H3 f3 r3 q3 => sll_all r3 (d1.mono (f2.trans f3)) q3 (Ret.mono (f1.trans (f2.trans f3)) c), xo.mono (f1.trans f2)⟩, xo.mono f1⟩, xo⟩
end
end TD
/-! # TD, 4: ==, built-in functions, isinstance -/
namespace TD
open PySem L2

/-! ### equality of data -/
def toP : D → PyData
  | .non => .none
  | .bl b => .bool b
  | .int i => .int i
  | .str x => .str x
  | .tup xs => .tuple (xs.attach.map fun ⟨x, _⟩ => toP x)
  | .lst xs => .list (xs.attach.map fun ⟨x, _⟩ => toP x)
  | .ref _ => .none
  | .ty _ => .none
  | .dic => .none
  | .scr ns => .list (ns.map PyData.int)
theorem toP_tup (xs : List D) : toP (.tup xs) = .tuple (xs.map toP) := by rw [toP]; congr 1; simp
theorem toP_lst (xs : List D) : toP (.lst xs) = .list (xs.map toP) := by rw [toP]; congr 1; simp
def strOk0 (x : Str) : Bool := x.cps.all (· < 0x110000)
/-- plain data of a depth up to n -/
def pureN : Nat → D → Bool
  | _, .non => true
  | _, .bl _ => true
  | _, .int _ => true
  | _, .str x => strOk0 x
  | n + 1, .tup xs => xs.all (pureN n)
  | n + 1, .lst xs => xs.all (pureN n)
  | _, _ => false
mutual
def deq : D → D → Bool
  | .non, .non => true
  | .bl a, .bl b => a == b
  | .bl a, .int j => (if a then 1 else 0) == j
  | .int i, .bl b => i == (if b then 1 else 0)
  | .int i, .int j => i == j
  | .str x, .str y => x == y
  | .tup xs, .tup ys => deqs xs ys
  | .lst xs, .lst ys => deqs xs ys
  | _, _ => false
def deqs : List D → List D → Bool
  | [], [] => true
  | x :: xs, y :: ys => deq x y && deqs xs ys
  | _, _ => false
end
theorem canLayAll_all : ∀ {xs : List PyData}, (∀ x ∈ xs, x.canLay0 = true) → PyData.canLayAll0 xs = true
  | [], _ => by unfold PyData.canLayAll0; rfl
  | x :: xs, h => by
    unfold PyData.canLayAll0
    rw [h x List.mem_cons_self, canLayAll_all fun y hy => h y (List.mem_cons_of_mem _ hy)] <;> rfl
theorem depthAll_le {n : Nat} : ∀ {xs : List PyData}, (∀ x ∈ xs, x.depth ≤ n) → PyData.depthAll xs ≤ n
  | [], _ => by unfold PyData.depthAll; exact Nat.zero_le _
  | x :: xs, h => by
    unfold PyData.depthAll
    exact Nat.max_le.mpr ⟨h x List.mem_cons_self, depthAll_le fun y hy => h y (List.mem_cons_of_mem _ hy)⟩
theorem pureN_ok : ∀ (n : Nat) (d : D), pureN n d = true → (toP d).canLay0 = true ∧ (toP d).depth ≤ n := by
  intro n
  induction n with
  | zero =>
    intro d h
    cases d with
    | tup xs => unfold pureN at h; cases h
    | lst xs => unfold pureN at h; cases h
    | non => unfold toP PyData.canLay0 PyData.depth; exact ⟨rfl, Nat.zero_le _⟩
    | bl b => unfold toP PyData.canLay0 PyData.depth; exact ⟨rfl, Nat.zero_le _⟩
    | int i => unfold toP PyData.canLay0 PyData.depth; exact ⟨rfl, Nat.zero_le _⟩
    | str x => unfold pureN at h; unfold toP PyData.canLay0 PyData.depth; exact ⟨h, Nat.zero_le _⟩
    | _ => unfold pureN at h; cases h
  | succ n ih =>
    intro d h
    cases d with
    | tup xs =>
      unfold pureN at h
      rw [List.all_eq_true] at h
      rw [toP_tup]
      unfold PyData.canLay0 PyData.depth
      refine ⟨canLayAll_all fun x hx => ?_, Nat.succ_le_succ (depthAll_le fun x hx => ?_)⟩ <;>
      · obtain ⟨y, hy, rfl⟩ := List.mem_map.mp hx
        first | exact (ih y (h y hy)).1 | exact (ih y (h y hy)).2
    | lst xs =>
      unfold pureN at h
      rw [List.all_eq_true] at h
      rw [toP_lst]
      unfold PyData.canLay0 PyData.depth
      refine ⟨canLayAll_all fun x hx => ?_, Nat.succ_le_succ (depthAll_le fun x hx => ?_)⟩ <;>
      · obtain ⟨y, hy, rfl⟩ := List.mem_map.mp hx
        first | exact (ih y (h y hy)).1 | exact (ih y (h y hy)).2
    | non => unfold toP PyData.canLay0 PyData.depth; exact ⟨rfl, Nat.zero_le _⟩
    | bl b => unfold toP PyData.canLay0 PyData.depth; exact ⟨rfl, Nat.zero_le _⟩
    | int i => unfold toP PyData.canLay0 PyData.depth; exact ⟨rfl, Nat.zero_le _⟩
    | str x => unfold pureN at h; unfold toP PyData.canLay0 PyData.depth; exact ⟨h, Nat.zero_le _⟩
    | _ => unfold pureN at h; cases h
theorem pureN_mono {n m : Nat} (l : n ≤ m) : ∀ {d : D}, pureN n d = true → pureN m d = true := by
  induction n generalizing m with
  | zero =>
    intro d h
    cases d <;> first | (unfold pureN at h ⊢; first | exact h | rfl | cases h) | (unfold pureN at h; cases h)
  | succ n ih =>
    intro d h
    obtain ⟨m, rfl⟩ : ∃ k, m = k + 1 := ⟨m - 1, by omega⟩
    cases d with
    | tup xs =>
      unfold pureN at h ⊢
      rw [List.all_eq_true] at h ⊢
      exact fun x hx => ih (by omega) (h x hx)
    | lst xs =>
      unfold pureN at h ⊢
      rw [List.all_eq_true] at h ⊢
      exact fun x hx => ih (by omega) (h x hx)
    | _ => first | (unfold pureN at h ⊢; first | exact h | rfl | cases h) | (unfold pureN at h; cases h)
mutual
theorem eqv_deq : ∀ (d e : D) (n : Nat), pureN n d = true → pureN n e = true → PyData.eqv (toP d) (toP e) = deq d e
  | .tup xs, .tup ys, n + 1, h1, h2 => by
    unfold pureN at h1 h2
    rw [List.all_eq_true] at h1 h2
    rw [toP_tup, toP_tup]
    unfold PyData.eqv deq
    exact eqvs_deqs xs ys n h1 h2
  | .lst xs, .lst ys, n + 1, h1, h2 => by
    unfold pureN at h1 h2
    rw [List.all_eq_true] at h1 h2
    rw [toP_lst, toP_lst]
    unfold PyData.eqv deq
    exact eqvs_deqs xs ys n h1 h2
  | .tup xs, e, 0, h1, _ => by unfold pureN at h1; cases h1
  | .lst xs, e, 0, h1, _ => by unfold pureN at h1; cases h1
  | .ref _, _, n, h1, _ => by cases n <;> (unfold pureN at h1; cases h1)
  | .ty _, _, n, h1, _ => by cases n <;> (unfold pureN at h1; cases h1)
  | .dic, _, n, h1, _ => by cases n <;> (unfold pureN at h1; cases h1)
  | .scr _, _, n, h1, _ => by cases n <;> (unfold pureN at h1; cases h1)
  | _, .ref _, n, _, h1 => by cases n <;> (unfold pureN at h1; cases h1)
  | _, .ty _, n, _, h1 => by cases n <;> (unfold pureN at h1; cases h1)
  | _, .dic, n, _, h1 => by cases n <;> (unfold pureN at h1; cases h1)
  | _, .scr _, n, _, h1 => by cases n <;> (unfold pureN at h1; cases h1)
  | .non, .non, _, _, _ | .non, .bl _, _, _, _ | .non, .int _, _, _, _ | .non, .str _, _, _, _ => by simp [toP, PyData.eqv, deq]
  | .bl _, .non, _, _, _ | .bl _, .bl _, _, _, _ | .bl _, .int _, _, _, _ | .bl _, .str _, _, _, _ => by simp [toP, PyData.eqv, deq]
  | .int _, .non, _, _, _ | .int _, .bl _, _, _, _ | .int _, .int _, _, _, _ | .int _, .str _, _, _, _ => by simp [toP, PyData.eqv, deq]
  | .str _, .non, _, _, _ | .str _, .bl _, _, _, _ | .str _, .int _, _, _, _ | .str _, .str _, _, _, _ => by simp [toP, PyData.eqv, deq]
  | .non, .tup _, _, _, _ | .non, .lst _, _, _, _ | .bl _, .tup _, _, _, _ | .bl _, .lst _, _, _, _ | .int _, .tup _, _, _, _ | .int _, .lst _, _, _, _ | .str _, .tup _, _, _, _ | .str _, .lst _, _, _, _ => by simp [toP, PyData.eqv, deq]
  | .tup _, .non, _ + 1, _, _ | .tup _, .bl _, _ + 1, _, _ | .tup _, .int _, _ + 1, _, _ | .tup _, .str _, _ + 1, _, _ | .tup _, .lst _, _ + 1, _, _ => by simp [toP, PyData.eqv, deq]
  | .lst _, .non, _ + 1, _, _ | .lst _, .bl _, _ + 1, _, _ | .lst _, .int _, _ + 1, _, _ | .lst _, .str _, _ + 1, _, _ | .lst _, .tup _, _ + 1, _, _ => by simp [toP, PyData.eqv, deq]
theorem eqvs_deqs : ∀ (xs ys : List D) (n : Nat), (∀ x ∈ xs, pureN n x = true) → (∀ x ∈ ys, pureN n x = true) → PyData.eqvAll (xs.map toP) (ys.map toP) = deqs xs ys
  | [], [], _, _, _ => by simp [PyData.eqvAll, deqs]
  | [], _ :: _, _, _, _ => by simp [PyData.eqvAll, deqs]
  | _ :: _, [], _, _, _ => by simp [PyData.eqvAll, deqs]
  | x :: xs, y :: ys, n, h1, h2 => by
    rw [List.map_cons, List.map_cons]
    unfold PyData.eqvAll deqs
    rw [eqv_deq x y n (h1 x List.mem_cons_self) (h2 y List.mem_cons_self), eqvs_deqs xs ys n (fun z hz => h1 z (List.mem_cons_of_mem _ hz)) fun z hz => h2 z (List.mem_cons_of_mem _ hz)]
end
section
variable {K : PySem.W.Frag} {Z : Addr → Prop} {G : GH} {H : Hp}
mutual
theorem DV.dp : ∀ {d : D} {v : V}, DV K Z G H d v → ∀ n, pureN n d = true → Dp K H v (toP d)
  | _, _, .non, _, _ => by unfold toP; exact .non
  | _, _, .bl b, _, _ => by unfold toP; exact .bl b
  | _, _, .int i, _, _ => by unfold toP; exact .int i
  | _, _, .str x, _, _ => by unfold toP; exact .str x
  | _, _, .ref a, n, h => by cases n <;> (unfold pureN at h; cases h)
  | _, _, .ty a, n, h => by cases n <;> (unfold pureN at h; cases h)
  | _, _, .dic _ _ _, n, h => by cases n <;> (unfold pureN at h; cases h)
  | _, _, .scr _ _, n, h => by cases n <;> (unfold pureN at h; cases h)
  | _, _, .tup _ _ _ _ _, 0, h => by unfold pureN at h; cases h
  | _, _, .lst _ _ _ _ _, 0, h => by unfold pureN at h; cases h
  | _, _, .tup ng g h1 z r, n + 1, h => by
    unfold pureN at h
    rw [List.all_eq_true] at h
    rw [toP_tup]
    exact .tup (SqT.of h1) (DVs.dp r n h)
  | _, _, .lst ng g h1 z r, n + 1, h => by
    unfold pureN at h
    rw [List.all_eq_true] at h
    rw [toP_lst]
    exact .lst (SqL.of h1) (DVs.dp r n h)
theorem DVs.dp : ∀ {ds : List D} {vs : List V}, DVs K Z G H ds vs → ∀ n, (∀ x ∈ ds, pureN n x = true) → DpAll K H vs (ds.map toP)
  | _, _, .nil, _, _ => .nil
  | _, _, .cons a b, n, h => .cons (DV.dp a n (h _ List.mem_cons_self)) (DVs.dp b n fun x hx => h x (List.mem_cons_of_mem _ hx))
end
end
/-- == and != of plain data -/
def rdEq : RD2 := fun z y G Q => ∃ n, n ≤ 60 ∧ pureN n z = true ∧ pureN n y = true ∧ Q (.bl (deq z y)) G
def rdNe : RD2 := fun z y G Q => ∃ n, n ≤ 60 ∧ pureN n z = true ∧ pureN n y = true ∧ Q (.bl (!deq z y)) G
theorem shaped_of {n : Nat} {d : D} (h : pureN n d = true) (l : n ≤ 60) : SeqAt.shaped (toP d) = true := by
  obtain ⟨h1, h2⟩ := pureN_ok n d h
  unfold SeqAt.shaped
  rw [h1, decide_eq_true (by omega)] <;> rfl
theorem opl_eq {K : PySem.W.Frag} : OpL K (rEqD K) rdEq := by
  rintro Z z y vz vy G H Qd Q hr dz dy ⟨n, l, h1, h2, q⟩ c
  refine ⟨_, _, dz.dp n h1, dy.dp n h2, shaped_of h1 l, shaped_of h2 l, ?_⟩
  rw [eqv_deq z y n h1 h2]
  exact Ret.bl c hr q
theorem opl_ne {K : PySem.W.Frag} : OpL K (rNeD K) rdNe := by
  rintro Z z y vz vy G H Qd Q hr dz dy ⟨n, l, h1, h2, q⟩ c
  refine ⟨_, _, dz.dp n h1, dy.dp n h2, shaped_of h1 l, shaped_of h2 l, ?_⟩
  rw [eqv_deq z y n h1 h2]
  exact Ret.bl c hr q

/-! ### built-in functions, by the values of their arguments -/
abbrev RDC := List D → GH → DK → Prop
def CallL (K : PySem.W.Frag) (r : List V → Hp → VK → Prop) (rd : RDC) : Prop := ∀ Z zs vs G H Qd Q, HR K Z G H → DVs K Z G H zs vs → rd zs G Qd → Ret K Z G H Qd Q → r vs H Q
def dCB (r : RDC) (t : DA) : DE := fun ρ x G Q => t ρ x G fun zs G1 => r zs G1 Q
theorem low_cb {K : PySem.W.Frag} {W : WX} {r : List V → Hp → VK → Prop} {rd : RDC} {t : DA} (hl : CallL K r rd) : ∀ σ H Q, lowE K W (dCB rd t) σ H Q → tCB r (lowA K W t) σ H Q := fun σ H Q ⟨Z, ρ, x, G, Qd, sr, hr, h, c, xo⟩ =>
  ⟨Z, ρ, x, G, _, sr, hr, h, fun zs vs G1 H1 f1 r1 d1 q1 => hl Z zs vs G1 H1 Qd Q r1 d1 q1 (Ret.mono f1 c), xo⟩
section
variable {X : Cx} {W : WX} {e : Expr} {es : List Expr} {t : DA} {x : Str} {p pos : Pos} {id T : String} {r : List V → Hp → VK → Prop} {rd : RDC}
theorem pd_callB (hc : CallR X (.builtin id) r) (hl : CallL X.K r rd) (hm : X.mg x = none) (ha : PDA X W (e :: es) t) (hv : bootBuiltins x = some (.builtin id) := by decide +kernel) (hg : Gl X x := by rfl) (hn : x ≠ "__name__" := by decide) (hdb : (x == ("__debug__" : Str)) = false := by decide)
    (he : starEach (e :: es) X.env = (false, eval e X.env) :: starEach es X.env := by rfl) (hpl : (backTo pos (starEach es X.env)).any (·.1) = false := by rfl) : PD X W (.Call (.Name x p) (e :: es) [] pos) (dCB rd t) :=
  PE.imp (pe_callB hc hg hm hv ha hn hdb he hpl) (low_cb hl)
theorem pd_callTy (hc : CallR X (.type T) r) (hl : CallL X.K r rd) (hm : X.mg x = none) (ha : PDA X W (e :: es) t) (hv : bootBuiltins x = some (.type T) := by decide +kernel) (hg : Gl X x := by rfl) (hn : x ≠ "__name__" := by decide) (hdb : (x == ("__debug__" : Str)) = false := by decide)
    (he : starEach (e :: es) X.env = (false, eval e X.env) :: starEach es X.env := by rfl) (hpl : (backTo pos (starEach es X.env)).any (·.1) = false := by rfl) : PD X W (.Call (.Name x p) (e :: es) [] pos) (dCB rd t) :=
  PE.imp (pe_callTy hc hg hm hv ha hn hdb he hpl) (low_cb hl)
end
def rdLen : RDC := fun zs G Q => match zs with
  | [.tup xs] => Q (.int xs.length) G
  | [.lst xs] => Q (.int xs.length) G
  | [.scr xs] => Q (.int xs.length) G
  | [.str w] => w.length ≤ sizeLine ∧ Q (.int w.length) G
  | [.ref a] => ∃ xs, G a = some (.lst xs) ∧ Q (.int xs.length) G
  | _ => False
theorem DVs.one {K : PySem.W.Frag} {Z : Addr → Prop} {G : GH} {H : Hp} {z : D} {vs : List V} (r : DVs K Z G H [z] vs) : ∃ v, vs = [v] ∧ DV K Z G H z v := by
  cases r with
  | cons a b => cases b; exact ⟨_, rfl, a⟩
theorem DVs.two {K : PySem.W.Frag} {Z : Addr → Prop} {G : GH} {H : Hp} {z y : D} {vs : List V} (r : DVs K Z G H [z, y] vs) : ∃ v u, vs = [v, u] ∧ DV K Z G H z v ∧ DV K Z G H y u := by
  cases r with
  | cons a b =>
    cases b with
    | cons a2 b2 => cases b2; exact ⟨_, _, rfl, a, a2⟩
abbrev rLen (K : PySem.W.Frag) : List V → Hp → VK → Prop := fun xs H Q => ∃ x n, xs = [x] ∧ LenV K x H n ∧ Q (.int n) H
theorem cll_len {K : PySem.W.Frag} : CallL K (rLen K) rdLen := by
  intro Z zs vs G H Qd Q hr ds h c
  unfold rdLen at h
  split at h
  · obtain ⟨v, rfl, d⟩ := ds.one
    cases d with
    | tup n1 g1 h1 z1 r1 => exact ⟨_, _, rfl, .inr ⟨_, SqT.of h1, r1.length⟩, Ret.int c hr h⟩
  · obtain ⟨v, rfl, d⟩ := ds.one
    cases d with
    | lst n1 g1 h1 z1 r1 => exact ⟨_, _, rfl, .inl ⟨_, SqL.of h1, r1.length⟩, Ret.int c hr h⟩
  · obtain ⟨v, rfl, d⟩ := ds.one
    cases d with
    | scr h1 z1 => exact ⟨_, _, rfl, .inl ⟨_, h1.seq, by rw [List.length_map]⟩, Ret.int c hr h⟩
  · obtain ⟨v, rfl, d⟩ := ds.one
    cases d
    exact ⟨_, _, rfl, ⟨h.1, rfl⟩, Ret.int c hr h.2⟩
  · obtain ⟨v, rfl, d⟩ := ds.one
    cases d
    obtain ⟨xs, g, q⟩ := h
    obtain ⟨ws, h1, r1, _⟩ := hr.at_ _ _ g
    exact ⟨_, _, rfl, .inl ⟨_, SqL.of h1, r1.length⟩, Ret.int c hr q⟩
  · exact h.elim
/-- the items of a sequence of ints, of bools -/
def dInts : List D → Option (List Int)
  | [] => some []
  | .int i :: r => (dInts r).map (i :: ·)
  | _ => none
def dBls : List D → Option (List Bool)
  | [] => some []
  | .bl i :: r => (dBls r).map (i :: ·)
  | _ => none
theorem dInts_of : ∀ {xs : List D} {ns : List Int}, dInts xs = some ns → xs = ns.map D.int
  | [], ns, h => by cases h; rfl
  | .int i :: r, ns, h => by
    unfold dInts at h
    cases e : dInts r with
    | none => rw [e] at h; cases h
    | some ms => rw [e] at h; cases h; rw [dInts_of e] <;> rfl
  | .non :: r, ns, h => by cases h
  | .bl _ :: r, ns, h => by cases h
  | .str _ :: r, ns, h => by cases h
  | .ref _ :: r, ns, h => by cases h
  | .ty _ :: r, ns, h => by cases h
  | .dic :: r, ns, h => by cases h
  | .tup _ :: r, ns, h => by cases h
  | .lst _ :: r, ns, h => by cases h
  | .scr _ :: r, ns, h => by cases h
theorem dInts_map (ns : List Int) : dInts (ns.map D.int) = some ns := by
  induction ns with
  | nil => rfl
  | cons n ns ih => rw [List.map_cons]; unfold dInts; rw [ih] <;> rfl
theorem dBls_of : ∀ {xs : List D} {ns : List Bool}, dBls xs = some ns → xs = ns.map D.bl
  | [], ns, h => by cases h; rfl
  | .bl i :: r, ns, h => by
    unfold dBls at h
    cases e : dBls r with
    | none => rw [e] at h; cases h
    | some ms => rw [e] at h; cases h; rw [dBls_of e] <;> rfl
  | .non :: r, ns, h => by cases h
  | .int _ :: r, ns, h => by cases h
  | .str _ :: r, ns, h => by cases h
  | .ref _ :: r, ns, h => by cases h
  | .ty _ :: r, ns, h => by cases h
  | .dic :: r, ns, h => by cases h
  | .tup _ :: r, ns, h => by cases h
  | .lst _ :: r, ns, h => by cases h
  | .scr _ :: r, ns, h => by cases h
theorem dBls_map (ns : List Bool) : dBls (ns.map D.bl) = some ns := by
  induction ns with
  | nil => rfl
  | cons n ns ih => rw [List.map_cons]; unfold dBls; rw [ih] <;> rfl
/-- sum, max, min, all, any of a list -/
def rdSum : RDC := fun zs G Q => ∃ xs ns, zs = [.lst xs] ∧ dInts xs = some ns ∧ Q (.int ns.sum) G
def rdAll : RDC := fun zs G Q => ∃ xs bs, zs = [.lst xs] ∧ dBls xs = some bs ∧ Q (.bl (bs.all id)) G
def rdAny : RDC := fun zs G Q => ∃ xs bs, zs = [.lst xs] ∧ dBls xs = some bs ∧ Q (.bl (bs.any id)) G
theorem cll_sum {K : PySem.W.Frag} : CallL K (rSum K) rdSum := by
  rintro Z zs vs G H Qd Q hr ds ⟨xs, ns, rfl, e, q⟩ c
  obtain ⟨v, rfl, d⟩ := ds.one
  cases d with
  | lst n1 g1 h1 z1 r1 =>
    rw [dInts_of e] at r1
    exact ⟨_, ns, rfl, by rw [← r1.ints]; exact SqL.of h1, Ret.int c hr q⟩
theorem cll_all {K : PySem.W.Frag} : CallL K (rAll K) rdAll := by
  rintro Z zs vs G H Qd Q hr ds ⟨xs, ns, rfl, e, q⟩ c
  obtain ⟨v, rfl, d⟩ := ds.one
  cases d with
  | lst n1 g1 h1 z1 r1 =>
    rw [dBls_of e] at r1
    exact ⟨_, ns, rfl, by rw [← r1.bls]; exact SqL.of h1, Ret.bl c hr q⟩
theorem cll_any {K : PySem.W.Frag} : CallL K (rAny K) rdAny := by
  rintro Z zs vs G H Qd Q hr ds ⟨xs, ns, rfl, e, q⟩ c
  obtain ⟨v, rfl, d⟩ := ds.one
  cases d with
  | lst n1 g1 h1 z1 r1 =>
    rw [dBls_of e] at r1
    exact ⟨_, ns, rfl, by rw [← r1.bls]; exact SqL.of h1, Ret.bl c hr q⟩
/-- max, min of a list of ints -/
def rdMaxL : RDC := fun zs G Q => ∃ xs ns, zs = [.lst xs] ∧ dInts xs = some ns ∧ 0 < ns.length ∧ ∀ m, m ∈ ns → (∀ y, y ∈ ns → y ≤ m) → Q (.int m) G
def rdMinL : RDC := fun zs G Q => ∃ xs ns, zs = [.lst xs] ∧ dInts xs = some ns ∧ 0 < ns.length ∧ ∀ m, m ∈ ns → (∀ y, y ∈ ns → m ≤ y) → Q (.int m) G
theorem cll_maxL {K : PySem.W.Frag} : CallL K (rMax K) rdMaxL := by
  rintro Z zs vs G H Qd Q hr ds ⟨xs, ns, rfl, e, l, q⟩ c
  obtain ⟨v, rfl, d⟩ := ds.one
  cases d with
  | lst n1 g1 h1 z1 r1 =>
    rw [dInts_of e] at r1
    exact ⟨_, ns, rfl, by rw [← r1.ints]; exact SqL.of h1, l, fun m h2 h3 => Ret.int c hr (q m h2 h3)⟩
theorem cll_minL {K : PySem.W.Frag} : CallL K (rMin K) rdMinL := by
  rintro Z zs vs G H Qd Q hr ds ⟨xs, ns, rfl, e, l, q⟩ c
  obtain ⟨v, rfl, d⟩ := ds.one
  cases d with
  | lst n1 g1 h1 z1 r1 =>
    rw [dInts_of e] at r1
    exact ⟨_, ns, rfl, by rw [← r1.ints]; exact SqL.of h1, l, fun m h2 h3 => Ret.int c hr (q m h2 h3)⟩
/-- max, min of two ints; abs; int -/
def rdMax2 : RDC := fun zs G Q => match zs with
  | [.int i, .int j] => Q (.int (if j > i then j else i)) G
  | _ => False
def rdMin2 : RDC := fun zs G Q => match zs with
  | [.int i, .int j] => Q (.int (if j < i then j else i)) G
  | _ => False
def rdAbs : RDC := fun zs G Q => match zs with
  | [.int i] => Q (.int (if i < 0 then -i else i)) G
  | _ => False
def rdInt1 : RDC := fun zs G Q => match zs with
  | [.int i] => Q (.int i) G
  | _ => False
theorem cll_max2 {K : PySem.W.Frag} : CallL K (fun xs H Q => ∃ i j, xs = [.int i, .int j] ∧ Q (.int (if j > i then j else i)) H) rdMax2 := by
  intro Z zs vs G H Qd Q hr ds h c
  unfold rdMax2 at h
  split at h
  · obtain ⟨v, u, rfl, d1, d2⟩ := ds.two
    cases d1; cases d2
    exact ⟨_, _, rfl, Ret.int c hr h⟩
  · exact h.elim
theorem cll_min2 {K : PySem.W.Frag} : CallL K (fun xs H Q => ∃ i j, xs = [.int i, .int j] ∧ Q (.int (if j < i then j else i)) H) rdMin2 := by
  intro Z zs vs G H Qd Q hr ds h c
  unfold rdMin2 at h
  split at h
  · obtain ⟨v, u, rfl, d1, d2⟩ := ds.two
    cases d1; cases d2
    exact ⟨_, _, rfl, Ret.int c hr h⟩
  · exact h.elim
theorem cll_abs {K : PySem.W.Frag} : CallL K (fun xs H Q => ∃ i, xs = [.int i] ∧ Q (.int (if i < 0 then -i else i)) H) rdAbs := by
  intro Z zs vs G H Qd Q hr ds h c
  unfold rdAbs at h
  split at h
  · obtain ⟨v, rfl, d⟩ := ds.one
    cases d
    exact ⟨_, rfl, Ret.int c hr h⟩
  · exact h.elim
theorem cll_int1 {K : PySem.W.Frag} : CallL K (fun xs H Q => (∃ i, xs = [.int i] ∧ Q (.int i) H) ∨ ∃ k, xs = [.bl k] ∧ Q (.int (if k then 1 else 0)) H) rdInt1 := by
  intro Z zs vs G H Qd Q hr ds h c
  unfold rdInt1 at h
  split at h
  · obtain ⟨v, rfl, d⟩ := ds.one
    cases d
    exact .inl ⟨_, rfl, Ret.int c hr h⟩
  · exact h.elim
/-- tuple(..), list(..) -/
def rdTuple : RDC := fun zs G Q => match zs with
  | [.tup xs] => Q (.tup xs) G
  | [.lst xs] => Q (.tup xs) G
  | [.ref a] => ∃ xs, G a = some (.lst xs) ∧ Q (.tup xs) G
  | _ => False
def rdList : RDC := fun zs G Q => match zs with
  | [.tup xs] => Q (.lst xs) G
  | [.lst xs] => Q (.lst xs) G
  | [.ref a] => ∃ xs, G a = some (.lst xs) ∧ Q (.lst xs) G
  | _ => False
def rdListM : RDC := fun zs G Q => match zs with
  | [.tup xs] => ∀ p, G p = none → Q (.ref p) (gup G p (.lst xs))
  | [.lst xs] => ∀ p, G p = none → Q (.ref p) (gup G p (.lst xs))
  | [.ref a] => ∃ xs, G a = some (.lst xs) ∧ ∀ p, G p = none → Q (.ref p) (gup G p (.lst xs))
  | _ => False
abbrev rTupleOf (K : PySem.W.Frag) : List V → Hp → VK → Prop := fun xs H Q => ∃ p ys, xs = [.ref p] ∧ ((SqL K H p ys ∧ ∀ l, H l = none → Q (.ref l) (upd H l (.tup ys))) ∨ (SqT K H p ys ∧ Q (.ref p) H))
abbrev rListOf (K : PySem.W.Frag) : List V → Hp → VK → Prop := fun xs H Q => ∃ p ys, xs = [.ref p] ∧ (SqL K H p ys ∨ SqT K H p ys) ∧ ∀ l, H l = none → Q (.ref l) (upd H l (.lst ys))
theorem cll_tuple {K : PySem.W.Frag} : CallL K (rTupleOf K) rdTuple := by
  intro Z zs vs G H Qd Q hr ds h c
  unfold rdTuple at h
  split at h
  · obtain ⟨v, rfl, d⟩ := ds.one
    cases d with
    | tup n1 g1 h1 z1 r1 => exact ⟨_, _, rfl, .inr ⟨SqT.of h1, Ret.here c hr (.tup n1 g1 h1 z1 r1) h⟩⟩
  · obtain ⟨v, rfl, d⟩ := ds.one
    cases d with
    | lst n1 g1 h1 z1 r1 => exact ⟨_, _, rfl, .inl ⟨SqL.of h1, fun l hl => Ret.tup c hr hl r1 z1 h⟩⟩
  · obtain ⟨v, rfl, d⟩ := ds.one
    cases d
    obtain ⟨xs, g, q⟩ := h
    obtain ⟨ws, h1, r1, z1⟩ := hr.at_ _ _ g
    exact ⟨_, _, rfl, .inl ⟨SqL.of h1, fun l hl => Ret.tup c hr hl r1 z1 q⟩⟩
  · exact h.elim
theorem cll_list {K : PySem.W.Frag} : CallL K (rListOf K) rdList := by
  intro Z zs vs G H Qd Q hr ds h c
  unfold rdList at h
  split at h
  · obtain ⟨v, rfl, d⟩ := ds.one
    cases d with
    | tup n1 g1 h1 z1 r1 => exact ⟨_, _, rfl, .inr (SqT.of h1), fun l hl => Ret.lst c hr hl r1 z1 h⟩
  · obtain ⟨v, rfl, d⟩ := ds.one
    cases d with
    | lst n1 g1 h1 z1 r1 => exact ⟨_, _, rfl, .inl (SqL.of h1), fun l hl => Ret.lst c hr hl r1 z1 h⟩
  · obtain ⟨v, rfl, d⟩ := ds.one
    cases d
    obtain ⟨xs, g, q⟩ := h
    obtain ⟨ws, h1, r1, z1⟩ := hr.at_ _ _ g
    exact ⟨_, _, rfl, .inl (SqL.of h1), fun l hl => Ret.lst c hr hl r1 z1 q⟩
  · exact h.elim
theorem cll_listM {K : PySem.W.Frag} : CallL K (rListOf K) rdListM := by
  intro Z zs vs G H Qd Q hr ds h c
  unfold rdListM at h
  split at h
  · obtain ⟨v, rfl, d⟩ := ds.one
    cases d with
    | tup n1 g1 h1 z1 r1 => exact ⟨_, _, rfl, .inr (SqT.of h1), fun l hl => Ret.lstM c hr hl r1 z1 (h l (hr.free hl))⟩
  · obtain ⟨v, rfl, d⟩ := ds.one
    cases d with
    | lst n1 g1 h1 z1 r1 => exact ⟨_, _, rfl, .inl (SqL.of h1), fun l hl => Ret.lstM c hr hl r1 z1 (h l (hr.free hl))⟩
  · obtain ⟨v, rfl, d⟩ := ds.one
    cases d
    obtain ⟨xs, g, q⟩ := h
    obtain ⟨ws, h1, r1, z1⟩ := hr.at_ _ _ g
    exact ⟨_, _, rfl, .inl (SqL.of h1), fun l hl => Ret.lstM c hr hl r1 z1 (q l (hr.free hl))⟩
  · exact h.elim
/-- the built-in type of a value -/
def tyD (G : GH) : D → Option String
  | .non => some "NoneType"
  | .bl _ => some "bool"
  | .int _ => some "int"
  | .str _ => some "str"
  | .tup _ => some "tuple"
  | .lst _ => some "list"
  | .scr _ => none
  | .dic => some "dict"
  | .ty _ => none
  | .ref a => match G a with
    | some (.lst _) => some "list"
    | some (.dK _) => some "dict"
    | some (.dT _) => some "dict"
    | some (.tupC _) => some "tuple"
    | _ => none
theorem tyD_of {K : PySem.W.Frag} {Z : Addr → Prop} {G : GH} {H : Hp} {z : D} {v : V} {t : String} (hr : HR K Z G H) (d : DV K Z G H z v) (h : tyD G z = some t) : TyX K H v (.type t) := by
  cases d with
  | non => cases h; exact .base .non
  | bl b => cases h; exact .base (.bl b)
  | int b => cases h; exact .base (.int b)
  | str b => cases h; exact .base (.str b)
  | ty b => cases h
  | scr _ _ => cases h
  | dic _ g e =>
    cases h
    rcases e with ⟨k, e⟩ | ⟨k, e⟩
    · exact .base (.dK e)
    · exact .base (.dT e)
  | tup ng g h1 z r => cases h; exact .base (.tup h1)
  | lst ng g h1 z r => cases h; exact .base (.lst h1)
  | ref a =>
    unfold tyD at h
    simp only at h
    split at h
    · rename_i e
      obtain ⟨_, h1, _⟩ := hr.at_ _ _ e
      cases h; exact .base (.lst h1)
    · rename_i e
      obtain ⟨_, h1, _⟩ := hr.at_ _ _ e
      cases h; exact .base (.dK h1)
    · rename_i e
      obtain ⟨_, h1, _⟩ := hr.at_ _ _ e
      cases h; exact .base (.dT h1)
    · rename_i e
      obtain ⟨_, _, h1, _⟩ := hr.at_ _ _ e
      cases h; exact .fTuple h1
    · cases h
/-- isinstance(x, c), c a built-in class -/
def isiB (t c : String) : Bool := t == c || (t == "bool" && c == "int")
def tyNames : List String := ["NoneType", "bool", "int", "str", "tuple", "list", "dict"]
theorem isi_kit (K : PySem.W.Frag) {t c : String} (h : t ∈ tyNames) (h2 : c ∈ tyNames) : PySem.W.kitOne K (.type t) (.type c) = some (isiB t c) := by
  simp only [tyNames, List.mem_cons, List.not_mem_nil, or_false] at h h2
  rcases h with rfl | rfl | rfl | rfl | rfl | rfl | rfl <;> rcases h2 with rfl | rfl | rfl | rfl | rfl | rfl | rfl <;> rfl
theorem tyD_mem {G : GH} {z : D} {t : String} (h : tyD G z = some t) : t ∈ tyNames := by
  unfold tyD at h
  split at h <;> first | (cases h; decide) | (cases h; done) | skip
  split at h <;> first | (cases h; decide) | cases h
def rdIsi : RDC := fun zs G Q => match zs with
  | [z, .ty c] => ∃ t, tyD G z = some t ∧ c ∈ tyNames ∧ Q (.bl (isiB t c)) G
  | _ => False
theorem cll_isi {K : PySem.W.Frag} : CallL K (rIsi K) rdIsi := by
  intro Z zs vs G H Qd Q hr ds h c
  unfold rdIsi at h
  split at h
  · obtain ⟨v, u, rfl, d1, d2⟩ := ds.two
    obtain ⟨t, e1, e2, q⟩ := h
    cases d2
    exact ⟨v, _, _, _, _, rfl, .ty _, tyD_of hr d1 e1, isi_kit K (tyD_mem e1) e2, Ret.bl c hr q⟩
  · exact h.elim
/-- .. c a class of the program's own -/
def rdIsiO (K : PySem.W.Frag) : RDC := fun zs G Q => match zs with
  | [z, .ref C] => ∃ t b, tyD G z = some t ∧ PySem.W.kitOne K (.type t) (.ref C) = some b ∧ Q (.bl b) G
  | _ => False
theorem cll_isiO {K : PySem.W.Frag} : CallL K (rIsi K) (rdIsiO K) := by
  intro Z zs vs G H Qd Q hr ds h c
  unfold rdIsiO at h
  split at h
  · obtain ⟨v, u, rfl, d1, d2⟩ := ds.two
    obtain ⟨t, b, e1, e2, q⟩ := h
    cases d2
    exact ⟨v, _, _, _, b, rfl, .own _, tyD_of hr d1 e1, e2, Ret.bl c hr q⟩
  · exact h.elim
end TD
/-! # TD, 5: targets, statements, loops, comprehensions -/
namespace TD
open PySem L2

/-! ### targets -/
theorem wipe_set {σ : L2.St} {i : Nat} {o : Option V} : ∀ {vs : List Nat}, i ∈ vs → wipe (σ.set i o) vs = wipe σ vs
  | [], h => by cases h
  | v :: vs, h => by
    unfold wipe
    by_cases e : i = v
    · subst e
      by_cases hm : i ∈ vs
      · rw [wipe_set hm]
      · have aux : ∀ (ws : List Nat), (wipe (σ.set i o) ws).set i none = (wipe σ ws).set i none := by
          intro ws
          induction ws with
          | nil => unfold wipe; rw [List.set_set]
          | cons w ws ih =>
            unfold wipe
            by_cases e : w = i
            · subst e; rw [ih]
            · rw [List.set_comm _ _ e, List.set_comm _ _ e, ih]
        exact aux vs
    · rw [wipe_set ((List.mem_cons.mp h).resolve_left e)]
def gdName (i : Nat) : DG := fun z ρ _ G Q => Q (ρ.set i (some z)) G
def gdNil : DGs := fun zs ρ _ G Q => zs = [] ∧ Q ρ G
def gdCons (g : DG) (gs : DGs) : DGs := fun zs ρ x G Q => match zs with
  | z :: r => g z ρ x G fun ρ' G' => gs r ρ' x G' Q
  | [] => False
def gdTup (gs : DGs) (n : Nat) : DG := fun z ρ x G Q => match z with
  | .tup xs => xs.length = n ∧ gs xs ρ x G Q
  | _ => False
section
variable {X : Cx} {W : WX} {vs : List Nat} {pos : Pos}
theorem pdg_of_name {i : Nat} {e : Expr} (h : PG X e (gName i)) (hm : i ∈ vs) : PDG X W vs e (gdName i) := PG.imp h fun v σ H Q ⟨Z, z, ρ, x, G, Qd, dz, sr, hr, q, c, xo⟩ =>
  c _ _ G H (Fr.refl G H) hr (sr.set dz i) (wipe_set hm) q
theorem pdg_name (i : Nat) {x : Str} (hN : X.N.Nodup) (hi : X.N[i]? = some x := by rfl) (hx : Loc X.env.scope x := by first | exact Or.inl rfl | exact Or.inr rfl) (hf : X.fn x = true ∨ X.env.scope.names.lookup x = some .local := by first | exact .inl rfl | exact .inr rfl)
    (hm : i ∈ vs := by decide) : PDG X W vs (.Name x pos) (gdName i) := pdg_of_name (pg_name hN hi hx hf) hm
theorem pdgs_nil : PDGs X W vs [] gdNil := PGs.imp pgs_nil fun us σ H Q ⟨Z, zs, ρ, x, G, Qd, dz, sr, hr, ⟨e, q⟩, c, xo⟩ => by
  subst e
  cases dz
  exact ⟨rfl, c _ _ G H (Fr.refl G H) hr sr rfl q⟩
theorem XOk.slots {K : PySem.W.Frag} {Z : Addr → Prop} {W : WX} {G : GH} {H : Hp} {σ : L2.St} {x : XD} (h : XOk K Z W G H σ x) : XOk K Z (fun c d _ H' => W c d σ H') G H σ x := h
theorem pdgs_cons {e : Expr} {es : List Expr} {g : DG} {gs : DGs} (h1 : PDG X (fun _ _ _ _ => False) vs e g) (h2 : PDGs X (fun _ _ _ _ => False) vs es gs)
    (hs : (assignEach (e :: es) X.env).map (·.2) = assign e X.env :: (assignEach es X.env).map (·.2) := by rfl) : PDGs X (fun _ _ _ _ => False) vs (e :: es) (gdCons g gs) :=
  PGs.imp (pgs_cons h1 h2 hs) fun us σ H Q ⟨Z, zs, ρ, x, G, Qd, dz, sr, hr, q, c, xo⟩ => by
    cases dz with
    | nil => exact q.elim
    | cons d1 d2 => exact ⟨_, _, rfl, Z, _, ρ, x, G, _, d1, sr, hr, q, fun ρ1 σ1 G1 H1 f1 r1 s1 w1 q1 => ⟨Z, _, ρ1, x, G1, Qd, d2.mono f1, s1, r1, q1, fun ρ2 σ2 G2 H2 f2 r2 s2 w2 q2 => c ρ2 σ2 G2 H2 (f1.trans f2) r2 s2 (w2.trans w1) q2, xo.mono f1⟩, xo⟩
theorem pdg_tup {es : List Expr} {k : Nat} {gs : DGs} {n : Nat} (hc : X.calm = true) (h : PDGs X (fun _ _ _ _ => False) vs es gs) (hn : (assignEach es X.env).length = n := by rfl) (hst : (assignEach es X.env).findIdx? (·.1) = none := by rfl) :
    PDG X (fun _ _ _ _ => False) vs (.Tuple es k pos) (gdTup gs n) := PG.imp (pg_tup hc h hn hst) fun v σ H Q ⟨Z, z, ρ, x, G, Qd, dz, sr, hr, q, c, xo⟩ => by
  cases dz with
  | tup n1 g1 h1 z1 r1 => exact ⟨_, _, rfl, SqT.of h1, by rw [← r1.length]; exact q.1, Z, _, ρ, x, G, Qd, r1, sr, hr, q.2, c, xo⟩
  | _ => exact q.elim
end

/-! ### statements -/
def dNext : DS := fun D ρ G => D.nx ρ G
def dSeq (s t : DS) : DS := fun D ρ G => s { D with nx := t D } ρ G
def dAsg (a : DE) (g : DG) : DS := fun D ρ G => a ρ (D.xx ρ) G fun z G1 => g z ρ (fun _ _ _ => False) G1 D.nx
def dRet (a : DE) : DS := fun D ρ G => a ρ (D.xx ρ) G D.rt
def dRetN : DS := fun D _ G => D.rt .non G
def dDrop (a : DE) : DS := fun D ρ G => a ρ (D.xx ρ) G fun _ G1 => D.nx ρ G1
def dIfS (c : DT) (s t : DS) : DS := fun D ρ G => c ρ (D.xx ρ) G fun k G1 => if k = true then s D ρ G1 else t D ρ G1
def dBreak : DS := fun D ρ G => D.bk ρ G
def dCont : DS := fun D ρ G => D.ct ρ G
abbrev WF : WX := fun _ _ _ _ => False
abbrev XF : XD := fun _ _ _ => False
theorem XOk.f {K : PySem.W.Frag} {Z : Addr → Prop} {W : WX} {G : GH} {H : Hp} {σ : L2.St} : XOk K Z W G H σ XF := fun _ _ _ _ _ _ _ _ _ _ _ q => q.elim
section
variable {X : Cx} {W : WX} {st : Stmt} {rest body : List Stmt} {e c tg : Expr} {s t : DS} {a : DE} {g : DG} {ct : DT} {pos : Pos}
theorem EndsOk.xo {K : PySem.W.Frag} {Z : Addr → Prop} {G : GH} {H : Hp} {Dd : DEnds} {E : Ends} {ρ : Rho} {σ : L2.St} (h : EndsOk K Z W G H Dd E) (sr : SR K Z G H ρ σ) : XOk K Z W G H σ (Dd.xx ρ) := h.xx ρ σ G H (Fr.refl G H) sr
theorem pdss_nil : PDSs X W [] dNext := PSs.imp pss_nil fun E σ H ⟨Z, ρ, G, Dd, sr, hr, h, ok⟩ => ok.nx ρ σ G H (Fr.refl G H) hr sr h
theorem low_seq {K : PySem.W.Frag} : ∀ E σ H, lowS K W (dSeq s t) E σ H → tSeq (lowS K W s) (lowS K W t) E σ H := fun E σ H ⟨Z, ρ, G, Dd, sr, hr, h, ok⟩ =>
  ⟨Z, ρ, G, _, sr, hr, h, ⟨fun ρ1 σ1 G1 H1 f1 r1 s1 q1 => ⟨Z, ρ1, G1, Dd, s1, r1, q1, ok.mono f1⟩, ok.rt, ok.bk, ok.ct, ok.xx⟩⟩
theorem pdss_cons (h1 : PDS X W st s) (h2 : PDSs X W rest t) : PDSs X W (st :: rest) (dSeq s t) := PSs.imp (pss_cons h1 h2) low_seq
theorem pdss_one (h1 : PDS X W st s) : PDSs X W [st] s := pss_one h1
theorem pds_pass : PDS X W (.Pass pos) dNext := PS.imp ps_pass fun E σ H ⟨Z, ρ, G, Dd, sr, hr, h, ok⟩ => ok.nx ρ σ G H (Fr.refl G H) hr sr h
theorem pds_break : PDS X W (.Break pos) dBreak := PS.imp ps_break fun E σ H ⟨Z, ρ, G, Dd, sr, hr, h, ok⟩ => ok.bk ρ σ G H (Fr.refl G H) hr sr h
theorem pds_continue : PDS X W (.Continue pos) dCont := PS.imp ps_continue fun E σ H ⟨Z, ρ, G, Dd, sr, hr, h, ok⟩ => ok.ct ρ σ G H (Fr.refl G H) hr sr h
theorem pds_ret (ha : PD X W e a) : PDS X W (.Return (some e) pos) (dRet a) := PS.imp (ps_ret ha) fun E σ H ⟨Z, ρ, G, Dd, sr, hr, h, ok⟩ => ⟨Z, ρ, Dd.xx ρ, G, _, sr, hr, h, ok.rt, ok.xo sr⟩
theorem pds_retN : PDS X W (.Return none pos) dRetN := PS.imp ps_retN fun E σ H ⟨Z, ρ, G, Dd, sr, hr, h, ok⟩ => ok.rt .non .non G H (Fr.refl G H) hr .non h
theorem pds_expr (ha : PD X W e a) (hs : swapsWith e none pos.line X.env = pure false := by rfl) : PDS X W (.Expr e pos) (dDrop a) := PS.imp (ps_expr ha hs) fun E σ H ⟨Z, ρ, G, Dd, sr, hr, h, ok⟩ =>
  ⟨Z, ρ, Dd.xx ρ, G, _, sr, hr, h, fun z v G1 H1 f1 r1 d1 q1 => ok.nx ρ σ G1 H1 f1 r1 (sr.mono f1) q1, ok.xo sr⟩
theorem pds_if {p q : List Stmt} (hc : PDT X W c ct) (hp : PDSs X W p s) (hq : PDSs X W q t) : PDS X W (.If c p q pos) (dIfS ct s t) := PS.imp (ps_if hc hp hq) fun E σ H ⟨Z, ρ, G, Dd, sr, hr, h, ok⟩ =>
  ⟨Z, ρ, Dd.xx ρ, G, _, sr, hr, h, fun k G1 H1 f1 r1 q1 => by
    cases k with
    | true => exact ⟨Z, ρ, G1, Dd, sr.mono f1, r1, q1, ok.mono f1⟩
    | false => exact ⟨Z, ρ, G1, Dd, sr.mono f1, r1, q1, ok.mono f1⟩, ok.xo sr⟩
theorem low_asg {K : PySem.W.Frag} {vs : List Nat} : ∀ E σ H, lowS K W (dAsg a g) E σ H → tAsg (lowE K W a) (lowG K WF vs g) E σ H := fun E σ H ⟨Z, ρ, G, Dd, sr, hr, h, ok⟩ =>
  ⟨Z, ρ, Dd.xx ρ, G, _, sr, hr, h, fun z v G1 H1 f1 r1 d1 q1 => ⟨Z, z, ρ, XF, G1, _, d1, sr.mono f1, r1, q1, fun ρ2 σ2 G2 H2 f2 r2 s2 _ q2 => ok.nx ρ2 σ2 G2 H2 (f1.trans f2) r2 s2 q2, XOk.f⟩, ok.xo sr⟩
theorem pds_asg {vs : List Nat} (ha : PD X W e a) (hg : PDG X WF vs tg g) (hs : swapsWithSole [tg] e pos.line X.env = pure false := by rfl) (hw : swappedStores [tg] e X.env = pure none := by rfl)
    (h1 : (assignEach [tg] X.env).map (·.2) = [assign tg X.env] := by rfl) : PDS X W (.Assign [tg] e pos) (dAsg a g) := PS.imp (ps_asg ha hg hs hw h1) low_asg
/-- name = e -/
theorem low_set {K : PySem.W.Frag} {i : Nat} : ∀ E σ H, lowS K W (dAsg a (gdName i)) E σ H → tAsg (lowE K W a) (gName i) E σ H := fun E σ H ⟨Z, ρ, G, Dd, sr, hr, h, ok⟩ =>
  ⟨Z, ρ, Dd.xx ρ, G, _, sr, hr, h, fun z v G1 H1 f1 r1 d1 q1 => ok.nx _ _ G1 H1 f1 r1 ((sr.mono f1).set d1 i) q1, ok.xo sr⟩
theorem pds_set (i : Nat) {x : Str} {pos' : Pos} (hN : X.N.Nodup) (ha : PD X W e a) (hi : X.N[i]? = some x := by rfl) (hx : Loc X.env.scope x := by first | exact Or.inl rfl | exact Or.inr rfl) (hs : swapsWith e (some (.Name x pos')) pos.line X.env = pure false := by rfl)
    (hf : X.fn x = true ∨ X.env.scope.names.lookup x = some .local := by first | exact .inl rfl | exact .inr rfl) : PDS X W (.Assign [.Name x pos'] e pos) (dAsg a (gdName i)) := PS.imp (ps_set hN hi hx ha hs hf) low_set
/-- x += e, x -= e of ints -/
def dAug (i : Nat) (a : DE) (f : Int → Int → Int) : DS := fun D ρ G => ∃ n, ρ[i]? = some (some (.int n)) ∧ a ρ (D.xx ρ) G fun y G1 => ∃ m, y = .int m ∧ D.nx (ρ.set i (some (.int (f n m)))) G1
theorem low_aug {K : PySem.W.Frag} {i : Nat} {f : Int → Int → Int} : ∀ E σ H, lowS K W (dAug i a f) E σ H → tAug i (lowE K W a) (ipI f) E σ H := fun E σ H ⟨Z, ρ, G, Dd, sr, hr, ⟨n, e, h⟩, ok⟩ => by
  obtain ⟨v, e1, d⟩ := sr.at_ i _ e
  cases d
  exact ⟨_, e1, Z, ρ, Dd.xx ρ, G, _, sr, hr, h, fun y v G1 H1 f1 r1 d1 ⟨m, em, q⟩ => by
    subst em
    cases d1
    exact ⟨_, _, rfl, rfl, ok.nx _ _ G1 H1 f1 r1 ((sr.mono f1).set (.int _) i) q⟩, ok.xo sr⟩
theorem pds_aug (i : Nat) {x : Str} {op : Operator} {f : Int → Int → Int} {pos' : Pos} (hN : X.N.Nodup) (ho : PIp X op (ipI f)) (ha : PD X W e a) (hi : X.N[i]? = some x := by rfl) (hx : Loc X.env.scope x := by first | exact Or.inl rfl | exact Or.inr rfl)
    (hf : X.fn x = true ∨ X.env.scope.names.lookup x = some .local := by first | exact .inl rfl | exact .inr rfl) : PDS X W (.AugAssign (.Name x pos') op e pos) (dAug i a f) := PS.imp (ps_aug hN hi hx ha ho hf) low_aug
/-- a, b = x, y: two local names -/
def dPar (i j : Nat) (a b : DE) : DS := fun D ρ G => a ρ (D.xx ρ) G fun z G1 => b ρ (D.xx ρ) G1 fun y G2 => D.nx ((ρ.set i (some z)).set j (some y)) G2
theorem pds_par (i j : Nat) {x y : Str} {e1 e2 : Expr} {b : DE} {px py pt : Pos} {kt k2 pt2} (hc : X.calm = true) (hN : X.N.Nodup) (ha : PD X W e1 a) (hb : PD X W e2 b) (hi : X.N[i]? = some x := by rfl) (hj : X.N[j]? = some y := by rfl) (hij : i ≠ j := by decide)
    (hx : X.env.scope.names.lookup x = some .local := by rfl) (hy : X.env.scope.names.lookup y = some .local := by rfl)
    (hw : swappedStores [.Tuple [.Name x px, .Name y py] kt pt] (.Tuple [e1, e2] k2 pt2) X.env = pure (some [x, y]) := by rfl)
    (hs : swapsWithSole [.Tuple [.Name x px, .Name y py] kt pt] (.Tuple [e1, e2] k2 pt2) pos.line X.env = pure false := by rfl)
    (hs1 : starEach (e1 :: [e2]) X.env = (false, eval e1 X.env) :: starEach [e2] X.env := by rfl) (hs2 : starEach (e2 :: []) X.env = (false, eval e2 X.env) :: starEach [] X.env := by rfl) :
    PDS X W (.Assign [.Tuple [.Name x px, .Name y py] kt pt] (.Tuple [e1, e2] k2 pt2) pos) (dPar i j a b) :=
  PS.imp (ps_par hc hN hi hj hij hx hy (pa_cons ha (pa_cons hb pa_nil hs2) hs1) hw hs) fun E σ H ⟨Z, ρ, G, Dd, sr, hr, h, ok⟩ =>
    ⟨Z, ρ, Dd.xx ρ, G, _, sr, hr, h, fun z v G1 H1 f1 r1 d1 q1 => ⟨Z, ρ, Dd.xx ρ, G1, _, sr.mono f1, r1, q1, fun y u G2 H2 f2 r2 d2 q2 => ⟨v, u, rfl, ok.nx _ _ G2 H2 (f1.trans f2) r2 (((sr.mono (f1.trans f2)).set (d1.mono f2) i).set d2 j) q2⟩, (ok.xo sr).mono f1⟩, ok.xo sr⟩
end

/-! ### what is walked -/
structure ItOk (K : PySem.W.Frag) (Z : Addr → Prop) (J : It) (items : List D) (G0 : GH) (H0 : Hp) (Gd : GH → Prop) : Prop where
  sz : items.length ≤ sizeLine
  go : ∀ (Z' : Addr → Prop) i G H, (∀ a, H0 a ≠ none → Z' a → Z a) → Fr G0 H0 G H → HR K Z' G H → Gd G → i < items.length → J.go i H
  stop : ∀ (Z' : Addr → Prop) G H, (∀ a, H0 a ≠ none → Z' a → Z a) → Fr G0 H0 G H → HR K Z' G H → Gd G → J.stop items.length H
  yld : ∀ (Z' : Addr → Prop) i G H x H', (∀ a, H0 a ≠ none → Z' a → Z a) → Fr G0 H0 G H → HR K Z' G H → Gd G → i < items.length → J.yld i H x H' → ∃ d, items[i]? = some d ∧ Fr G H G H' ∧ HR K Z' G H' ∧ DV K Z' G H' d x
abbrev DI := Rho → XD → GH → (List D → (GH → Prop) → GH → Prop) → Prop
def lowI (K : PySem.W.Frag) (W : WX) (d : DI) : TI := fun σ H R => ∃ (Z : Addr → Prop) (ρ : Rho) (x : XD) (G : GH) (Qd : List D → (GH → Prop) → GH → Prop), SR K Z G H ρ σ ∧ HR K Z G H ∧ d ρ x G Qd ∧
  (∀ items Gd G' H' J, Fr G H G' H' → HR K Z G' H' → ItOk K Z J items G' H' Gd → Qd items Gd G' → R J H') ∧ XOk K Z W G H σ x
abbrev PDI (X : Cx) (W : WX) (tg e : Expr) (d : DI) : Prop := PI X tg e (lowI X.K W d)
theorem PI.imp {X : Cx} {tg e : Expr} {t t' : TI} (h : PI X tg e t) (i : ∀ σ H Q, t' σ H Q → t σ H Q) : PI X tg e t' := ⟨fun pins s σ H Q I q => h.run pins s σ H Q I (i σ H Q q)⟩
def dLoop (Gd : GH → Prop) (g : DG) (body : DS) (E : DEnds) : List D → Rho → GH → Prop
  | [], ρ, G => Gd G ∧ E.nx ρ G
  | d :: r, ρ, G => Gd G ∧ g d ρ (fun _ _ _ => False) G fun ρ2 G2 => body { E with nx := dLoop Gd g body E r, ct := dLoop Gd g body E r, bk := E.nx } ρ2 G2
def dFor (di : DI) (g : DG) (body : DS) : DS := fun D ρ G => di ρ (D.xx ρ) G fun items Gd G1 => dLoop Gd g body D items ρ G1
theorem low_for {K : PySem.W.Frag} {W : WX} {di : DI} {g : DG} {body : DS} {vs : List Nat} : ∀ E σ H, lowS K W (dFor di g body) E σ H → tFor (lowI K W di) (lowG K WF vs g) (lowS K W body) E σ H := fun E σ H ⟨Z, ρ, G, Dd, sr, hr, h, ok⟩ =>
  ⟨Z, ρ, Dd.xx ρ, G, _, sr, hr, h, fun items Gd G1 H1 J f1 r1 it q1 => by
    refine ⟨fun i m σ' H' => m = items.length - i ∧ i ≤ items.length ∧ ∃ ρ' G', Fr G1 H1 G' H' ∧ HR K Z G' H' ∧ SR K Z G' H' ρ' σ' ∧ dLoop Gd g body Dd (items.drop i) ρ' G', ⟨items.length, by simp, Nat.zero_le _, ρ, G1, Fr.refl G1 H1, r1, sr.mono f1, by simpa using q1⟩, ?_⟩
    rintro i m σ2 H2 ⟨rfl, hi, ρ2, G2, f2, r2, s2, q2⟩
    by_cases hlt : i < items.length
    · have e := List.drop_eq_getElem_cons hlt
      rw [e] at q2
      obtain ⟨gd, q2⟩ := q2
      refine .inr ⟨it.go Z i G2 H2 (fun _ _ z => z) f2 r2 gd hlt, fun σ' H' => ∃ ρ' G', Fr G1 H1 G' H' ∧ HR K Z G' H' ∧ SR K Z G' H' ρ' σ' ∧ dLoop Gd g body Dd (items.drop (i + 1)) ρ' G', fun σ' H' hh => ⟨items.length - (i + 1), by omega, rfl, hlt, hh⟩, fun x H3 y => ?_⟩
      obtain ⟨d, ed, f3, r3, d3⟩ := it.yld Z i G2 H2 x H3 (fun _ _ z => z) f2 r2 gd hlt y
      have e2 : items[i] = d := by
        rw [List.getElem?_eq_getElem hlt] at ed
        exact Option.some.inj ed
      rw [e2] at q2
      refine ⟨Z, d, ρ2, XF, G2, _, d3, s2.mono f3, r3, q2, fun ρ4 σ4 G4 H4 f4 r4 s4 _ q4 => ⟨Z, ρ4, G4, _, s4, r4, q4, ?_⟩, XOk.f⟩
      have f5 : Fr G1 H1 G4 H4 := f2.trans (f3.trans f4)
      have ok5 := ok.mono (f1.trans f5)
      exact ⟨fun ρ' σ' G' H' f' r' s' q' => ⟨ρ', G', f5.trans f', r', s', q'⟩, ok5.rt, ok5.nx, fun ρ' σ' G' H' f' r' s' q' => ⟨ρ', G', f5.trans f', r', s', q'⟩, ok5.xx⟩
    · have e : i = items.length := by omega
      subst e
      rw [List.drop_length] at q2
      exact .inl ⟨it.stop Z G2 H2 (fun _ _ z => z) f2 r2 q2.1, ok.nx ρ2 σ2 G2 H2 (f1.trans f2) r2 s2 q2.2⟩, ok.xo sr⟩
theorem pds_for {X : Cx} {W : WX} {tg iter : Expr} {body : List Stmt} {di : DI} {g : DG} {b : DS} {vs : List Nat} {pos : Pos} (hp : PassesOwn (model X.prog X.w) X.A X.env X.xe) (hc : X.calm = true) (hi : PDI X W tg iter di) (hg : PDG X WF vs tg g) (hb : PDSs X W body b)
    (hs : ∀ x, foldedSetIterable iter X.env x = pure x := by intro _; rfl) : PDS X W (.For tg iter body [] pos) (dFor di g b) := PS.imp (ps_for hp hc hi hg hb hs) low_for

/-! ### comprehensions -/
def dwipe (ρ : Rho) : List Nat → Rho
  | [] => ρ
  | v :: vs => (dwipe ρ vs).set v none
theorem SR.wipe {K : PySem.W.Frag} {Z : Addr → Prop} {G : GH} {H : Hp} {ρ : Rho} {σ : L2.St} (h : SR K Z G H ρ σ) : ∀ vs : List Nat, SR K Z G H (dwipe ρ vs) (L2.wipe σ vs)
  | [] => h
  | v :: vs => (SR.wipe h vs).unset none v
def dComp (Gd : GH → Prop) (g : DG) (t : DT) (e : DE) (ρ : Rho) (Q : DK) : List D → List D → GH → Prop
  | [], acc, G => Gd G ∧ Q (.lst acc) G
  | d :: r, acc, G => Gd G ∧ g d ρ (fun _ _ _ => False) G fun ρ2 G2 => t ρ2 (fun _ _ _ => False) G2 fun b G3 => if b = true then e ρ2 (fun _ _ _ => False) G3 (fun y G4 => dComp Gd g t e ρ Q r (acc ++ [y]) G4) else dComp Gd g t e ρ Q r acc G3
def dLc (di : DI) (g : DG) (t : DT) (e : DE) (vs : List Nat) : DE := fun ρ x G Q => di ρ x G fun items Gd G1 => dComp Gd g t e (dwipe ρ vs) Q items [] G1
/-! the hidden list changes: no value sees it -/
section
variable {K : PySem.W.Frag} {Z : Addr → Prop} {G : GH} {H : Hp} {D0 : Addr} {ws : List V} {o : HO}
theorem z_ne {a : Addr} (hz : Z D0) (nz : ¬ Z a) : a ≠ D0 := fun e => nz (by rw [e]; exact hz)
mutual
theorem DV.hid (hz : Z D0) (hd : H D0 = some (.lst ws)) : ∀ {d : D} {v : V}, DV K Z G H d v → DV K Z G (upd H D0 o) d v
  | _, _, .non => .non
  | _, _, .bl b => .bl b
  | _, _, .int i => .int i
  | _, _, .str x => .str x
  | _, _, .ref a => .ref a
  | _, _, .ty n => .ty n
  | _, _, .dic nz g h => .dic nz g (by rw [upd_ne (z_ne hz nz)]; exact h)
  | _, _, .tup nz g h z r => .tup nz g (by rw [upd_ne (z_ne hz nz)]; exact h) z (DVs.hid hz hd r)
  | _, _, .lst nz g h z r => .lst nz g (by rw [upd_ne (z_ne hz nz)]; exact h) z (DVs.hid hz hd r)
  | _, _, .scr h z => .scr (by
      rcases h with ⟨g, nz, h⟩ | h
      · refine .inl ⟨g, nz, ?_⟩
        unfold Rd at h ⊢
        rw [upd_ne (z_ne hz nz)]
        exact h
      · exact .inr h) z
theorem DVs.hid (hz : Z D0) (hd : H D0 = some (.lst ws)) : ∀ {ds : List D} {vs : List V}, DVs K Z G H ds vs → DVs K Z G (upd H D0 o) ds vs
  | _, _, .nil => .nil
  | _, _, .cons a b => .cons (DV.hid hz hd a) (DVs.hid hz hd b)
end
theorem PairD.hid {κ : Type} (hz : Z D0) (hd : H D0 = some (.lst ws)) : ∀ {l : List (κ × D)} {m : List (κ × V)}, PairD K Z G H l m → PairD K Z G (upd H D0 o) l m
  | _, _, .nil => .nil
  | _, _, .cons a b => .cons ⟨a.1, a.2.hid hz hd⟩ (PairD.hid hz hd b)
theorem HR.hidden {us : List V} (h : HR K Z G H) (hz : Z D0) (hd : H D0 = some (.lst ws)) : HR K Z G (upd H D0 (.lst us)) := by
  refine ⟨fun a m q => ?_, fun a q => ?_⟩
  · have ne : a ≠ D0 := fun e => by
      have := (h.hid D0 hz).2
      rw [e, this] at q
      cases q
    have r := h.at_ a m q
    have e : upd H D0 (.lst us) a = H a := upd_ne ne
    cases m with
    | lst ds => obtain ⟨vs, h1, h2, h3⟩ := r; exact ⟨vs, e.trans h1, h2.hid hz hd, h3⟩
    | dK ds => obtain ⟨vs, h1, h2⟩ := r; exact ⟨vs, e.trans h1, h2.hid hz hd⟩
    | dT ds => obtain ⟨vs, h1, h2⟩ := r; exact ⟨vs, e.trans h1, h2.hid hz hd⟩
    | fK o' ks ds => obtain ⟨h1, h2⟩ := r; exact ⟨e.trans h1, h2.hid hz hd⟩
    | fT o' ks ds => obtain ⟨h1, h2⟩ := r; exact ⟨e.trans h1, h2.hid hz hd⟩
    | ins C fs => obtain ⟨dx, fv, h1, h2⟩ := r; exact ⟨dx, fv, e.trans h1, h2.hid hz hd⟩
    | tab q =>
      obtain ⟨ps, h1, h2, h3⟩ := r
      refine ⟨ps, e.trans h1, h2, fun pos cv hc => ?_⟩
      obtain ⟨c, e1, e2, e3⟩ := h3 pos cv hc
      refine ⟨c, e1, ?_, e3⟩
      rw [upd_ne]
      · exact e2
      · intro z
        rw [z, hd] at e2
        unfold LamX.CodeO at e2
        cases e2
    | tupC ds => obtain ⟨o, vs, h1, h2, h3, h4⟩ := r; exact ⟨o, vs, e.trans h1, h2, h3.hid hz hd, h4⟩
    | ext φ ks => obtain ⟨h1, h2⟩ := r; exact ⟨e.trans h1, fun p hp => (h2 p hp).hid hz hd⟩
  · obtain ⟨h1, h2⟩ := h.hid a q
    refine ⟨?_, h2⟩
    by_cases e : a = D0
    · rw [e, upd_same]; exact ⟨us, rfl⟩
    · rw [upd_ne e]; exact h1
end
/-! one more hidden place -/
section
variable {K : PySem.W.Frag} {Z Z' : Addr → Prop} {G : GH} {H : Hp}
mutual
theorem DV.zmono (hz : ∀ a, H a ≠ none → Z' a → Z a) : ∀ {d : D} {v : V}, DV K Z G H d v → DV K Z' G H d v
  | _, _, .non => .non
  | _, _, .bl b => .bl b
  | _, _, .int i => .int i
  | _, _, .str x => .str x
  | _, _, .ref a => .ref a
  | _, _, .ty n => .ty n
  | _, _, .dic nz g h => .dic (fun q => nz (hz _ (by rcases h with ⟨_, h⟩ | ⟨_, h⟩ <;> (rw [h]; exact fun z => nomatch z)) q)) g h
  | _, _, .tup nz g h z r => .tup (fun q => nz (hz _ (by rw [h]; exact fun z => nomatch z) q)) g h z (DVs.zmono hz r)
  | _, _, .lst nz g h z r => .lst (fun q => nz (hz _ (by rw [h]; exact fun z => nomatch z) q)) g h z (DVs.zmono hz r)
  | _, _, .scr h z => .scr (h.zmono hz) z
theorem DVs.zmono (hz : ∀ a, H a ≠ none → Z' a → Z a) : ∀ {ds : List D} {vs : List V}, DVs K Z G H ds vs → DVs K Z' G H ds vs
  | _, _, .nil => .nil
  | _, _, .cons a b => .cons (DV.zmono hz a) (DVs.zmono hz b)
end
theorem PairD.zmono {κ : Type} (hz : ∀ a, H a ≠ none → Z' a → Z a) : ∀ {l : List (κ × D)} {m : List (κ × V)}, PairD K Z G H l m → PairD K Z' G H l m
  | _, _, .nil => .nil
  | _, _, .cons a b => .cons ⟨a.1, a.2.zmono hz⟩ (PairD.zmono hz b)
theorem MR.zmono (hz : ∀ a, H a ≠ none → Z' a → Z a) {a : Addr} {m : MO} (r : MR K Z G H a m) : MR K Z' G H a m := by
  cases m with
  | lst ds => obtain ⟨vs, h1, h2, h3⟩ := r; exact ⟨vs, h1, h2.zmono hz, h3⟩
  | dK ds => obtain ⟨vs, h1, h2⟩ := r; exact ⟨vs, h1, h2.zmono hz⟩
  | dT ds => obtain ⟨vs, h1, h2⟩ := r; exact ⟨vs, h1, h2.zmono hz⟩
  | fK o' ks ds => obtain ⟨h1, h2⟩ := r; exact ⟨h1, h2.zmono hz⟩
  | fT o' ks ds => obtain ⟨h1, h2⟩ := r; exact ⟨h1, h2.zmono hz⟩
  | ins C fs => obtain ⟨dx, fv, h1, h2⟩ := r; exact ⟨dx, fv, h1, h2.zmono hz⟩
  | tab q => exact r
  | tupC ds => obtain ⟨o, vs, h1, h2, h3, h4⟩ := r; exact ⟨o, vs, h1, h2, h3.zmono hz, h4⟩
  | ext φ ks => obtain ⟨h1, h2⟩ := r; exact ⟨h1, fun p hp => (h2 p hp).zmono hz⟩
theorem SR.zmono (hz : ∀ a, H a ≠ none → Z' a → Z a) {ρ : Rho} {σ : L2.St} (s : SR K Z G H ρ σ) : SR K Z' G H ρ σ :=
  ⟨s.len, fun i d e => let ⟨v, a, b⟩ := s.at_ i d e; ⟨v, a, b.zmono hz⟩⟩
end
theorem wipe_wipe (σ : L2.St) (vs : List Nat) : L2.wipe (L2.wipe σ vs) vs = L2.wipe σ vs := by
  have aux : ∀ (ws : List Nat) (τ : L2.St), (∀ v ∈ ws, v ∈ vs) → L2.wipe (L2.wipe τ ws) vs = L2.wipe τ vs := by
    intro ws
    induction ws with
    | nil => intro τ _; rfl
    | cons w ws ih =>
      intro τ hw
      show L2.wipe ((L2.wipe τ ws).set w none) vs = _
      rw [wipe_set (hw w List.mem_cons_self)]
      exact ih τ fun v hv => hw v (List.mem_cons_of_mem _ hv)
  exact aux vs σ fun _ h => h
theorem low_lc {K : PySem.W.Frag} {W : WX} {di : DI} {g : DG} {t : DT} {e : DE} {vs : List Nat} : ∀ σ H Q, lowE K W (dLc di g t e vs) σ H Q → tLc (lowI K W di) (lowG K WF vs g) (lowT K WF t) (lowE K WF e) vs σ H Q := fun σ H Q ⟨Z, ρ, x, G, Qd, sr, hr, h, c, xo⟩ =>
  ⟨Z, ρ, x, G, _, sr, hr, h, fun items Gd G1 H1 J f1 r1 it q1 Dl hD => by
    -- the new list is hidden while it grows
    let Z' : Addr → Prop := fun a => Z a ∨ a = Dl
    have zz : ∀ {H2 : Hp} {a : Addr}, Z a → Z' a := fun h => .inl h
    have up1 : ∀ a, H1 a ≠ none → Z' a → Z a := fun a ha q => q.elim (fun z => z) fun e => absurd hD (e ▸ ha)
    have gD : G1 Dl = none := r1.free hD
    have fN : Fr G1 H1 G1 (upd H1 Dl (.lst [])) := Fr.new hD
    have r1' : HR K Z' G1 (upd H1 Dl (.lst [])) := by
      refine ⟨fun a m q => ?_, fun a q => ?_⟩
      · exact ((r1.at_ a m q).zmono up1).keep fN (upd_ne fun z => (r1.at_ a m q).some (z ▸ hD))
      · rcases q with q | q
        · exact hid_mono fN (r1.hid a q)
        · rw [q, upd_same]
          exact ⟨⟨_, rfl⟩, gD⟩
    have back : ∀ {G2 : GH} {H2 : Hp}, HR K Z' G2 H2 → HR K Z G2 H2 := fun r => ⟨fun a m q => (r.at_ a m q).zmono fun _ _ z => .inl z, fun a z => r.hid a (.inl z)⟩
    -- the slots within
    have sW : SR K Z' G1 (upd H1 Dl (.lst [])) (dwipe ρ vs) (L2.wipe σ vs) := (((sr.mono f1).zmono up1).mono fN).wipe vs
    refine ⟨fun i m H' => m = items.length - i ∧ i ≤ items.length ∧ ∃ G' acc accV, Fr G1 H1 G' H' ∧ HR K Z' G' H' ∧ SR K Z' G' H' (dwipe ρ vs) (L2.wipe σ vs) ∧ H' Dl = some (.lst accV) ∧ DVs K Z' G' H' acc accV ∧ accV.length ≤ i ∧ dComp Gd g t e (dwipe ρ vs) Qd (items.drop i) acc G',
      ⟨items.length, by simp, Nat.zero_le _, G1, [], [], fN, r1', sW, upd_same, .nil, Nat.le_refl _, by simpa using q1⟩, ?_⟩
    rintro i m H2 ⟨rfl, hi, G2, acc, accV, f2, r2, s2, hd2, da, la, q2⟩
    by_cases hlt : i < items.length
    · have ed := List.drop_eq_getElem_cons hlt
      rw [ed] at q2
      obtain ⟨gd, q2⟩ := q2
      refine .inr ⟨it.go Z' i G2 H2 up1 f2 r2 gd hlt, fun H' => ∃ G' acc accV, Fr G1 H1 G' H' ∧ HR K Z' G' H' ∧ SR K Z' G' H' (dwipe ρ vs) (L2.wipe σ vs) ∧ H' Dl = some (.lst accV) ∧ DVs K Z' G' H' acc accV ∧ accV.length ≤ i + 1 ∧ dComp Gd g t e (dwipe ρ vs) Qd (items.drop (i + 1)) acc G',
        fun H' hh => ⟨items.length - (i + 1), by omega, rfl, hlt, hh⟩, fun x3 H3 y => ?_⟩
      obtain ⟨d, edd, f3, r3, d3⟩ := it.yld Z' i G2 H2 x3 H3 up1 f2 r2 gd hlt y
      have e2 : items[i] = d := by
        rw [List.getElem?_eq_getElem hlt] at edd
        exact Option.some.inj edd
      rw [e2] at q2
      refine ⟨Z', d, _, XF, G2, _, d3, s2.mono f3, r3, q2, fun ρ4 σ4 G4 H4 f4 r4 s4 w4 q4 => ⟨w4.trans (wipe_wipe σ vs), Z', ρ4, XF, G4, _, s4, r4, q4, fun b G5 H5 f5 r5 q5 => ?_, XOk.f⟩, XOk.f⟩
      have fA : Fr G1 H1 G5 H5 := f2.trans (f3.trans (f4.trans f5))
      have hd5 : ∀ {G6 : GH} {H6 : Hp}, Fr G5 H5 G6 H6 → H6 Dl = some (.lst accV) := fun f6 =>
        ((f3.trans (f4.trans (f5.trans f6))) Dl _ hd2 (r2.hid Dl (.inr rfl)).2).1
      have sl : ∀ {G6 : GH} {H6 : Hp}, Fr G5 H5 G6 H6 → SR K Z' G6 H6 (dwipe ρ vs) (L2.wipe σ vs) := fun f6 => s2.mono (f3.trans (f4.trans (f5.trans f6)))
      cases b with
      | false => exact ⟨G5, acc, accV, fA, r5, sl (Fr.refl _ _), hd5 (Fr.refl _ _), da.mono (f3.trans (f4.trans f5)), Nat.le_succ_of_le la, q5⟩
      | true =>
        refine ⟨Z', ρ4, XF, G5, _, s4.mono f5, r5, q5, fun y2 u2 G6 H6 f6 r6 d6 q6 => ⟨accV, hd5 f6, Nat.lt_of_le_of_lt la (Nat.lt_of_lt_of_le hlt it.sz), ?_⟩, XOk.f⟩
        have h6 := hd5 f6
        refine ⟨G6, acc ++ [y2], accV ++ [u2], fun b o hb hn => ?_, r6.hidden (.inr rfl) h6, ?_, upd_same, ?_, ?_, q6⟩
        · have nb : b ≠ Dl := ne_of_none hb hD
          rw [upd_ne nb]
          exact (fA.trans f6) b o hb hn
        · exact ⟨(sl f6).len, fun j e ej => let ⟨v, a, b⟩ := (sl f6).at_ j e ej; ⟨v, a, b.hid (.inr rfl) h6⟩⟩
        · exact ((da.mono (f3.trans (f4.trans (f5.trans f6)))).append (.cons d6 .nil)).hid (.inr rfl) h6
        · rw [List.length_append, List.length_singleton]
          exact Nat.succ_le_succ la
    · have ei : i = items.length := by omega
      subst ei
      rw [List.drop_length] at q2
      refine .inl ⟨it.stop Z' G2 H2 up1 f2 r2 q2.1, ?_⟩
      have gD2 : G2 Dl = none := (r2.hid Dl (.inr rfl)).2
      have nZ : ¬ Z Dl := r1.noZ hD
      exact c (.lst acc) (.ref Dl) G2 H2 (f1.trans f2) (back r2) (.lst nZ gD2 hd2 (Nat.le_trans la it.sz) (da.zmono fun _ _ z => .inl z)) q2.2, xo⟩
end TD
/-! # TD, 6: enumerate and zip over tuples and lists in any mix -/
namespace TD
open PySem PySem.Spec PyProof.Rows L2
/-! ### enumerate(v) begins -/
theorem meets_enumerate_new1 {v : Value} {o : Obj} {H : Heap → Prop} (B : Begins v o H) :
    Meets (Builtin.«enumerate.__new__» ⟨[.type "enumerate", v], []⟩) (fun _ R s => H s.heap ∧
      R (.ok (.ret (.ref (s.heap.push o).objs.size))) { s with heap := (s.heap.push o).push { cls := .type "enumerate", data := .fields #[.none, .bool false, .ref s.heap.objs.size, rawInt 0, .none, .none] } }) :=
  .of_wp fun prog w A R s h => by
    obtain ⟨hp, g, d, tk, os⟩ := s; obtain ⟨h1, h⟩ := h
    have hsub := sub_enumerate
    have q1 : ∀ {A' : Around} {E : Value → Shared → Prop} {Q : Value → Shared → Prop}, Q (.ref hp.objs.size) ⟨hp.push o, g, d, tk, os⟩ → wpAny (model prog w) A' (pyIter v) Q E ⟨hp, g, d, tk, os⟩ :=
      fun q => B.iter prog w _ _ ⟨hp, g, d, tk, os⟩ _ h1 q
    wp_walk using q1
    refine wpAny_stack_any fun st => wpAny_pure ?_
    split
    · rename_i c _ _ _ _ _
      cases (c == Value.type "enumerate")
      · wp_walk using q1
        exact ⟨_, rfl, h⟩
      · wp_walk using q1
        exact ⟨_, rfl, h⟩
    · wp_walk using q1
      exact ⟨_, rfl, h⟩
section
variable {prog : Program} {w : World} {A : Around} {E : Value → Shared → Prop} {s : Shared}
theorem enum_begins1 {v : Value} {o : Obj} {H : Heap → Prop} {Q : Value → Shared → Prop} (B : Begins v o H) (h1 : H s.heap)
    (h : ∀ h', IsEnum h' (s.heap.objs.size + 1) s.heap.objs.size 0 .none → h'.get? s.heap.objs.size = some o → h'.objs.size = s.heap.objs.size + 2 →
      (∀ b o, s.heap.get? b = some o → h'.get? b = some o) → Q (.ref (s.heap.objs.size + 1)) { s with heap := h' }) :
    wpAny (model prog w) A (call (.type "enumerate") [v]) Q E s := by
  refine callType_new F.called_enumerate (by decide) (F.typeCall_enumerate_1 _) (F.newCall_enumerate_1 _) (fun obj => F.args_object_init_2 obj _) F.entry_enumerate_new
    (meets_enumerate_new1 B) ⟨h1, ?_⟩
  have hz : (s.heap.push o).objs.size = s.heap.objs.size + 1 := Heap.size_push ..
  show _ ∧ _
  rw [hz]
  have he : IsEnum ((s.heap.push o).push { cls := .type "enumerate", data := .fields #[.none, .bool false, .ref s.heap.objs.size, rawInt 0, .none, .none] }) (s.heap.objs.size + 1) s.heap.objs.size 0 .none := by
    have := Heap.get?_push_size (s.heap.push o) (o := { cls := .type "enumerate", data := .fields #[.none, .bool false, .ref s.heap.objs.size, rawInt 0, .none, .none] }) rfl
    rw [hz] at this; exact this
  refine ⟨⟨_, he, rfl⟩, h _ he (Heap.get?_push_of_some _ (Heap.get?_push_size _ B.free)) (by rw [Heap.size_push, hz]) fun b o x => Heap.get?_push_of_some _ (Heap.get?_push_of_some _ x)⟩
end

/-- a tuple (true) or a list (false) -/
def SqB (K : PySem.W.Frag) (H : Hp) (b : Bool) (a : Addr) (xs : List V) : Prop := match b with
  | true => SqT K H a xs
  | false => SqL K H a xs
def SeqH (b : Bool) (h : Heap) (a : Addr) (items : Array Value) : Prop := match b with
  | true => h.IsTuple a items
  | false => h.IsList a items
def IterB (b : Bool) (h : Heap) (it a : Addr) (i : Nat) : Prop := match b with
  | true => h.IsTupleIter it a i
  | false => h.IsListIter it a i
def iterO (b : Bool) (a : Addr) : Obj := match b with
  | true => { cls := .type "tuple_iterator", data := .fields #[.ref a, .int 0 0] }
  | false => { cls := .type "list_iterator", data := .fields #[.ref a, .int 0 0] }
theorem beginsB (b : Bool) (a : Addr) (items : Array Value) : Begins (.ref a) (iterO b a) fun h => SeqH b h a items := match b with
  | true => begins_tuple a items
  | false => begins_list a items
theorem iterB_new (b : Bool) (a it : Addr) (h : Heap) (e : h.get? it = some (iterO b a)) : IterB b h it a 0 := match b, e with
  | true, e => ⟨_, e, rfl, rfl⟩
  | false, e => ⟨_, e, rfl, rfl⟩
theorem IterB.at {b : Bool} {h h' : Heap} {it a : Addr} {i : Nat} (k : ∀ o, h.get? it = some o → h'.get? it = some o) (x : IterB b h it a i) : IterB b h' it a i := match b, x with
  | true, x => Heap.IsTupleIter.at x k
  | false, x => Heap.IsListIter.at x k
theorem IterB.obj {b : Bool} {h : Heap} {it a : Addr} {i : Nat} (x : IterB b h it a i) : ∃ o, h.get? it = some o ∧ ∀ v, o.data ≠ .cell v := match b, x with
  | true, ⟨o, e, _, d⟩ => ⟨o, e, fun v z => by rw [d] at z; cases z⟩
  | false, ⟨o, e, _, d⟩ => ⟨o, e, fun v z => by rw [d] at z; cases z⟩
theorem drawsB {prog : Program} {w : World} {A : Around} (b : Bool) (hh : A.handled = none) (it a : Addr) (hne : a ≠ it) (items : Array Value) :
    Draws prog w A it [it, a] items.size (fun i v => items[i]? = some v) (fun i h => IterB b h it a i ∧ SeqH b h a items) := match b with
  | true => Draws.tuple hh it a hne items
  | false => Draws.list hh it a hne items
section
variable {X : Cx} {pins : List (Addr × Obj)} {σ : L2.St} {H : Hp} {s : Shared} {a : Addr} {xs ys : List V} {b : Bool}
theorem Inv.seqB (I : Inv X pins σ H s) (h : SqB X.K H b a xs) : ∃ its : List Value, Vals xs its ∧ SeqH b s.heap a its.toArray ∧ xs.length ≤ sizeLine ∧ a < s.heap.objs.size := by
  cases b with
  | true =>
    obtain ⟨its, r, p, z⟩ := I.tuple h
    exact ⟨its, r, p, z, p.lt⟩
  | false =>
    obtain ⟨its, r, p, z⟩ := I.list h
    exact ⟨its, r, p.isList, z, p.lt⟩
theorem Inv.seqB_inj (I : Inv X pins σ H s) (h : SqB X.K H b a xs) (h' : SqB X.K H b a ys) : xs = ys := by
  cases b with
  | true => exact I.tuple_inj h h'
  | false => exact I.list_inj h h'
end
theorem Vals.getU {xs : List V} {us : List Value} {i : Nat} {u : Value} (r : Vals xs us) (h : us.toArray[i]? = some u) : ∃ x, xs[i]? = some x ∧ RelV x u := by
  rw [List.getElem?_toArray] at h
  obtain ⟨hi, _⟩ := List.getElem?_eq_some_iff.mp h
  have hl := r.length
  cases e : xs[i]? with
  | none =>
    have := List.getElem?_eq_none_iff.mp e
    omega
  | some x =>
    obtain ⟨u', h1, h2⟩ := r.get e
    rw [h] at h1
    cases h1
    exact ⟨x, rfl, h2⟩
/-- enumerate: each item in a new pair -/
def IteB (K : PySem.W.Frag) (b : Bool) (a : Addr) : It :=
  ⟨fun i H => ∃ (xs : List V) (x : V), SqB K H b a xs ∧ xs[i]? = some x, fun i H v H' => ∃ T x, v = .ref T ∧ H T = none ∧ H' = upd H T (.tup [.int (i : Nat), x]) ∧ ∀ xs, SqB K H b a xs → xs[i]? = some x, fun i H => ∃ xs : List V, SqB K H b a xs ∧ xs.length = i⟩
theorem turn_enumB {P : Program} {w : World} {K : PySem.W.Frag} {elts : List Expr} {kk : Nat} {tpos : Pos} (b : Bool) (a e it : Addr) (hei : e ≠ it) (hea : e ≠ a) (hai : a ≠ it) :
    Turn P w K (.Tuple elts kk tpos) (IteB K b a) [e, it] e (fun i h => (∃ old, IsEnum h e it ((i : Nat) : Int) old) ∧ IterB b h it a i) where
  mem := by simp
  obj := fun i h st c hc => by
    obtain ⟨⟨old, he⟩, hi⟩ := st
    have e' : c = e ∨ c = it := by simpa using hc
    rcases e' with z | z
    · rw [z]; exact ⟨_, he, fun v q => nomatch q⟩
    · rw [z]; exact hi.obj
  keep := fun i h h' st k => let ⟨⟨old, he⟩, hi⟩ := st; ⟨⟨old, k e (by simp) _ he⟩, hi.at fun o q => k it (by simp) o q⟩
  item := by
    intro X hP hw hK hc i pins s σ H E I hf st hg
    subst hP hw hK
    obtain ⟨⟨old, he⟩, hit⟩ := st
    obtain ⟨xs, x0, hq, hx⟩ := hg
    obtain ⟨its, rv, p, hz, _⟩ := Inv.seqB I hq
    have hlt : i < its.toArray.size := by
      have l := rv.length
      have := (List.getElem?_eq_some_iff.mp hx).1
      simp; omega
    have hel : e < s.heap.objs.size := Heap.lt_size he
    have hil : it < s.heap.objs.size := by obtain ⟨_, q, _⟩ := hit.obj; exact Heap.lt_size q
    refine wpAny_pyNext_enum_itemD (drawsB b (show X.A.in1.handled = none from I.ok.hd hc) it a hai its.toArray) he ⟨hit, p⟩ hlt hei (by simp [hei, hea]) fun u h' tk hP ho hit' hT hsz hk => ?_
    obtain ⟨x, hx2, ru⟩ := Vals.getU rv hP
    refine ⟨_, rfl, wpAny_letOwnedTupleGo_enum (s := { s with heap := h', toks := tk + 1 }) ho fun h'' he' sb => ?_⟩
    have hT2 : h''.get? s.heap.objs.size = some { cls := .type "tuple", data := .seq #[.int i tk, u] } := (sb.2 _ (Nat.ne_of_gt hel)).trans hT
    have new : ObjOk X.prog X.w (upd H s.heap.objs.size (.tup [.int (i : Nat), x])) h'' s.heap.objs.size (.tup [.int (i : Nat), x]) :=
      ⟨by show 2 ≤ sizeLine; decide, [.int i tk, u], .cons ⟨_, rfl⟩ (.cons ru .nil), ⟨_, hT2, rfl, _, rfl⟩⟩
    have I1 : Inv X pins σ (upd H s.heap.objs.size (.tup [.int (i : Nat), x])) { s with heap := h'', toks := tk + 1 } :=
      I.turnedNew (ch := [e, it]) (fun c ob hb q => (sb.2 c (fun z => hb (by simp [z]))).trans (hk c ob (fun z => hb (by simp [z])) (fun z => hb (by simp [z])) q)) hf (Nat.le_refl _) new
    refine ⟨.ref s.heap.objs.size, _, I1, rfl, ⟨_, x, rfl, I.hok.fresh (Nat.le_refl _), rfl, fun ys hy => by rw [Inv.seqB_inj I hy hq]; exact hx2⟩, ⟨⟨u, ?_⟩, hit'.1.at fun o q => (sb.2 it (Ne.symm hei)).trans q⟩, fun c hb => ?_⟩
    · have e1 : ((i + 1 : Nat) : Int) = (i : Int) + 1 := by omega
      rw [e1]; exact he'
    · have hb' : c < s.heap.objs.size := by
        have e' : c = e ∨ c = it := by simpa using hb
        rcases e' with z | z
        · rw [z]; exact hel
        · rw [z]; exact hil
      rw [upd_ne (Nat.ne_of_lt hb')]
      exact (hf c hb).1
  done := by
    intro X hP hw hK hc i pins s σ H E I hf st hg
    subst hP hw hK
    obtain ⟨⟨old, he⟩, hit⟩ := st
    obtain ⟨xs, hq, hx⟩ := hg
    obtain ⟨its, rv, p, hz, _⟩ := Inv.seqB I hq
    obtain ⟨f0, f1, f2, f3, f4, f5⟩ := hf it (by simp)
    have hl := rv.length
    have hn : its.toArray.size = i := by simp; omega
    refine wpAny_pyNext_enum_endD (drawsB b (show X.A.in1.handled = none from I.ok.hd hc) it a hai its.toArray) he (by rw [hn]; exact ⟨hit, p⟩) fun h' eb => ⟨rfl, I.turned (t' := s.toks) (fun c o hb q => eb c o hb q) f0 f1 f3 f4 f5⟩
  self := fun A i s Q E st h => let ⟨⟨_, he⟩, _⟩ := st; wpAny_pyIter_enum he h
def iEnumB (K : PySem.W.Frag) (ta : TA) : TI := fun σ H R => ta σ H fun vs H1 => ∃ b a xs, vs = [.ref a] ∧ SqB K H1 b a xs ∧ R (IteB K b a) H1
theorem pi_enumB {X : Cx} {e : Expr} {ta : TA} {p pos tpos : Pos} {elts : List Expr} {kk : Nat} (hg : Gl X "enumerate") (hm : X.mg "enumerate" = none) (ha : PA X [e] ta) (hs : starEach [e] X.env = [(false, eval e X.env)] := by rfl) :
    PI X (.Tuple elts kk tpos) (.Call (.Name "enumerate" p) [e] [] pos) (iEnumB X.K ta) := by
  refine ⟨fun pins s σ H R I h => ?_⟩
  refine Call_ (ld_blt I hg hm boot_enumerate (PyProof.Rows.callWith_type1 (thn (ha.run pos pins s σ H _ I h) fun us s1 ⟨vs, H1, I1, r1, q1⟩ => ?_) hs rfl))
  obtain ⟨b, a, xs, ex, hq, q⟩ := q1
  subst ex
  cases r1 with
  | cons r rr =>
    cases rr
    cases r
    obtain ⟨its, rv, p', hz, la⟩ := Inv.seqB I1 hq
    refine enum_begins1 (beginsB b a its.toArray) p' fun h' he hit hsz hk => wpAny_pyIter_enum he ?_
    have I2 : Inv X pins σ H1 { s1 with heap := h' } := I1.kept (t' := s1.toks) hk
    refine ⟨s1.heap.objs.size + 1, [s1.heap.objs.size + 1, s1.heap.objs.size], _, _, H1, rfl, I2, turn_enumB b a (s1.heap.objs.size + 1) s1.heap.objs.size (Nat.succ_ne_self _) (Nat.ne_of_gt (Nat.lt_succ_of_lt la)) (Nat.ne_of_lt la), ⟨⟨.none, he⟩, iterB_new b a _ h' hit⟩, fun c hc => ?_, q⟩
    have e' : c = s1.heap.objs.size + 1 ∨ c = s1.heap.objs.size := by simpa using hc
    have hle : s1.heap.objs.size ≤ c := by
      rcases e' with z | z
      · rw [z]; exact Nat.le_add_right _ _
      · rw [z]; exact Nat.le_refl _
    exact I1.fpOk hle (I1.hok.fresh hle)
/-- zip: the items in new pairs -/
def ItzB (K : PySem.W.Frag) (b1 b2 : Bool) (a1 a2 : Addr) : It :=
  ⟨fun i H => ∃ (xs ys : List V) (x y : V), SqB K H b1 a1 xs ∧ SqB K H b2 a2 ys ∧ xs[i]? = some x ∧ ys[i]? = some y,
    fun i H v H' => ∃ T x y, v = .ref T ∧ H T = none ∧ H' = upd H T (.tup [x, y]) ∧ (∀ xs, SqB K H b1 a1 xs → xs[i]? = some x) ∧ ∀ ys, SqB K H b2 a2 ys → ys[i]? = some y,
    fun i H => ∃ xs ys : List V, SqB K H b1 a1 xs ∧ SqB K H b2 a2 ys ∧ i ≤ xs.length ∧ i ≤ ys.length ∧ (i = xs.length ∨ i = ys.length)⟩
theorem turn_zipB {P : Program} {w : World} {K : PySem.W.Frag} {elts : List Expr} {kk : Nat} {tpos : Pos} {b1 b2 : Bool} {a1 a2 z TI TO i1 i2 : Addr} (D : ZipSep2 z TI TO i1 i2 [i1, a1] [i2, a2]) (n1 : a1 ≠ i1) (n2 : a2 ≠ i2) :
    Turn P w K (.Tuple elts kk tpos) (ItzB K b1 b2 a1 a2) [z, TI, TO, i1, i2] z (fun i h => IsZip h z TI TO .none ∧ IsTupOf2 h TI (.ref i1) (.ref i2) ∧ (∃ x y, IsTupOf2 h TO x y) ∧ IterB b1 h i1 a1 i ∧ IterB b2 h i2 a2 i) where
  mem := by simp
  obj := fun i h st c hc => by
    obtain ⟨hz, hTI, ⟨x, y, hTO⟩, h1, h2⟩ := st
    have e' : c = z ∨ c = TI ∨ c = TO ∨ c = i1 ∨ c = i2 := by simpa using hc
    rcases e' with q | q | q | q | q
    · rw [q]; exact ⟨_, hz, fun v q => nomatch q⟩
    · rw [q]; exact ⟨_, hTI, fun v q => nomatch q⟩
    · rw [q]; exact ⟨_, hTO, fun v q => nomatch q⟩
    · rw [q]; exact h1.obj
    · rw [q]; exact h2.obj
  keep := fun i h h' st k => by
    obtain ⟨hz, hTI, ⟨x, y, hTO⟩, h1, h2⟩ := st
    exact ⟨k z (by simp) _ hz, k TI (by simp) _ hTI, ⟨x, y, k TO (by simp) _ hTO⟩, h1.at fun o q => k i1 (by simp) o q, h2.at fun o q => k i2 (by simp) o q⟩
  item := by
    intro X hP hw hK hc i pins s σ H E I hf st hg
    subst hP hw hK
    obtain ⟨hz, hTI, ⟨x0, y0, hTO⟩, h1, h2⟩ := st
    obtain ⟨xs, ys, x, y, hqx, hqy, hx, hy⟩ := hg
    obtain ⟨its, rv, p, _, _⟩ := Inv.seqB I hqx
    obtain ⟨its2, rv2, p2, _, _⟩ := Inv.seqB I hqy
    have lt1 : i < its.toArray.size := by
      have l := rv.length
      have := (List.getElem?_eq_some_iff.mp hx).1
      simp; omega
    have lt2 : i < its2.toArray.size := by
      have l := rv2.length
      have := (List.getElem?_eq_some_iff.mp hy).1
      simp; omega
    have hzl : z < s.heap.objs.size := Heap.lt_size hz
    refine wpAny_pyNext_zipD2_item D (drawsB b1 (show X.A.in1.handled = none from I.ok.hd hc) i1 a1 n1 its.toArray) (drawsB b2 (show X.A.in1.handled = none from I.ok.hd hc) i2 a2 n2 its2.toArray) hz hTI hTO ⟨h1, p⟩ ⟨h2, p2⟩ lt1 lt2 fun u u2 h' tk hP1 hP2 z' TO' h1' h2' hT hsz hk => ?_
    obtain ⟨x, hx, ru⟩ := Vals.getU rv hP1
    obtain ⟨y, hy, ru2⟩ := Vals.getU rv2 hP2
    refine ⟨_, rfl, wpAny_letOwnedTupleGo_zip (s := { s with heap := h', toks := tk }) z' fun h'' z'' sb => ?_⟩
    have hT2 : h''.get? s.heap.objs.size = some { cls := .type "tuple", data := .seq #[u, u2] } := (sb.2 _ (Nat.ne_of_gt hzl)).trans hT
    have new : ObjOk X.prog X.w (upd H s.heap.objs.size (.tup [x, y])) h'' s.heap.objs.size (.tup [x, y]) :=
      ⟨by show 2 ≤ sizeLine; decide, [u, u2], .cons ru (.cons ru2 .nil), ⟨_, hT2, rfl, _, rfl⟩⟩
    have I1 : Inv X pins σ (upd H s.heap.objs.size (.tup [x, y])) { s with heap := h'', toks := tk } :=
      I.turnedNew (t' := tk) (ch := [z, TI, TO, i1, i2]) (fun c o hb q => (sb.2 c (fun q' => hb (by simp [q']))).trans (hk c o (fun q' => hb (by simp [q'])) (fun q' => hb (by simp [q'])) (fun q' => hb (by simp [q'])) (fun q' => hb (by simp [q'])) q)) hf (Nat.le_refl _) new
    refine ⟨.ref s.heap.objs.size, _, I1, rfl, ⟨_, x, y, rfl, I.hok.fresh (Nat.le_refl _), rfl, fun l hl => by rw [Inv.seqB_inj I hl hqx]; exact hx, fun l hl => by rw [Inv.seqB_inj I hl hqy]; exact hy⟩, ⟨z'', ?_, ⟨u, u2, ?_⟩, ?_, ?_⟩, fun c hcm => ?_⟩
    · exact (sb.2 _ D.TIz).trans (hk _ _ D.TIz D.TITO D.TIi1 D.TIi2 hTI)
    · exact (sb.2 _ D.TOz).trans TO'
    · exact h1'.1.at fun o q => (sb.2 _ (Ne.symm D.zi1)).trans q
    · exact h2'.1.at fun o q => (sb.2 _ (Ne.symm D.zi2)).trans q
    · have hlt : c < s.heap.objs.size := by
        have e' : c = z ∨ c = TI ∨ c = TO ∨ c = i1 ∨ c = i2 := by simpa using hcm
        rcases e' with q | q | q | q | q
        · rw [q]; exact hzl
        · rw [q]; exact Heap.lt_size hTI
        · rw [q]; exact Heap.lt_size hTO
        · rw [q]; obtain ⟨_, e1, _⟩ := h1.obj; exact Heap.lt_size e1
        · rw [q]; obtain ⟨_, e2, _⟩ := h2.obj; exact Heap.lt_size e2
      rw [upd_ne (Nat.ne_of_lt hlt)]
      exact (hf c hcm).1
  done := by
    intro X hP hw hK hc i pins s σ H E I hf st hg
    subst hP hw hK
    obtain ⟨hz, hTI, ⟨x0, y0, hTO⟩, h1, h2⟩ := st
    obtain ⟨xs, ys, hqx, hqy, l1, l2, hend⟩ := hg
    obtain ⟨its, rv, p, _, _⟩ := Inv.seqB I hqx
    obtain ⟨its2, rv2, p2, _, _⟩ := Inv.seqB I hqy
    have e1 := rv.length
    have e2 := rv2.length
    exact wpAny_pyNext_zipD2_end D (drawsB b1 (show X.A.in1.handled = none from I.ok.hd hc) i1 a1 n1 its.toArray) (drawsB b2 (show X.A.in1.handled = none from I.ok.hd hc) i2 a2 n2 its2.toArray) hz hTI hTO ⟨h1, p⟩ ⟨h2, p2⟩ (by simp; omega) (by simp; omega) (by simp; omega)
      fun h' tk hk => ⟨rfl, I.turnedL (t' := tk) (ch := [z, TI, TO, i1, i2]) (fun c o hb q =>
      hk c o (fun q' => hb (by simp [q'])) (fun q' => hb (by simp [q'])) (fun q' => hb (by simp [q'])) (fun q' => hb (by simp [q'])) q) hf⟩
  self := fun A i s Q E st h => wpAny_pyIter_zip st.1 h
def iZipB (K : PySem.W.Frag) (ta : TA) : TI := fun σ H R => ta σ H fun vs H1 => ∃ b1 b2 a1 a2 xs ys, vs = [.ref a1, .ref a2] ∧ SqB K H1 b1 a1 xs ∧ SqB K H1 b2 a2 ys ∧ R (ItzB K b1 b2 a1 a2) H1
theorem pi_zipB {X : Cx} {e e2 : Expr} {ta : TA} {p pos tpos : Pos} {elts : List Expr} {kk : Nat} (hg : Gl X "zip") (hm : X.mg "zip" = none) (ha : PA X [e, e2] ta)
    (hs : starEach [e, e2] X.env = (false, eval e X.env) :: starEach [e2] X.env := by rfl) (hpl : (backTo pos (starEach [e2] X.env)).any (·.1) = false := by rfl) :
    PI X (.Tuple elts kk tpos) (.Call (.Name "zip" p) [e, e2] [] pos) (iZipB X.K ta) := by
  refine ⟨fun pins s σ H R I h => ?_⟩
  refine Call_ (ld_blt I hg hm PyProof.Rows.boot_zip (PyProof.Rows.callWith_type1 (thn (ha.run pos pins s σ H _ I h) fun us s1 ⟨vs, H1, I1, r1, q1⟩ => ?_) hs hpl))
  obtain ⟨b1, b2, a1, a2, xs, ys, ex, hqx, hqy, q⟩ := q1
  subst ex
  cases r1 with
  | cons r rr =>
    cases rr with
    | cons r' rr =>
      cases rr
      cases r
      cases r'
      obtain ⟨its, rv, p1, _, la⟩ := Inv.seqB I1 hqx
      obtain ⟨its2, rv2, p2, _, lb⟩ := Inv.seqB I1 hqy
      refine zip_begins2 (beginsB b1 a1 its.toArray) (beginsB b2 a2 its2.toArray) p1 p2 fun h' hz hTI hTO h1 h2 hsz hk => wpAny_pyIter_zip hz ?_
      have I2 : Inv X pins σ H1 { s1 with heap := h' } := I1.kept (t' := s1.toks) hk
      refine ⟨s1.heap.objs.size + 4, [s1.heap.objs.size + 4, s1.heap.objs.size + 2, s1.heap.objs.size + 3, s1.heap.objs.size, s1.heap.objs.size + 1], _, _, H1, rfl, I2,
        turn_zipB (b1 := b1) (b2 := b2) (zip_sep2 (N := s1.heap.objs.size) (fp1 := [a1]) (fp2 := [a2]) (fun c hc => by rw [List.mem_singleton.mp hc]; exact la) (fun c hc => by rw [List.mem_singleton.mp hc]; exact lb)) (Nat.ne_of_lt la) (Nat.ne_of_lt (Nat.lt_succ_of_lt lb)),
        ⟨hz, hTI, ⟨_, _, hTO⟩, iterB_new b1 a1 _ h' h1, iterB_new b2 a2 _ h' h2⟩, fun c hcm => ?_, q⟩
      have e' : c = s1.heap.objs.size + 4 ∨ c = s1.heap.objs.size + 2 ∨ c = s1.heap.objs.size + 3 ∨ c = s1.heap.objs.size ∨ c = s1.heap.objs.size + 1 := by simpa using hcm
      have hle : s1.heap.objs.size ≤ c := by
        rcases e' with z | z | z | z | z
        · rw [z]; exact Nat.le_add_right _ _
        · rw [z]; exact Nat.le_add_right _ _
        · rw [z]; exact Nat.le_add_right _ _
        · rw [z]; exact Nat.le_refl _
        · rw [z]; exact Nat.le_add_right _ _
      exact I1.fpOk hle (I1.hok.fresh hle)
/-! ### a tuple, a list or a text walked -/
def iSeqA (K : PySem.W.Frag) (tl : TE) : TI := fun σ H R => tl σ H fun x H1 => (∃ a, x = .ref a ∧ (∃ xs, SqL K H1 a xs) ∧ R (Itl K a) H1) ∨ (∃ a, x = .ref a ∧ (∃ xs, SqT K H1 a xs) ∧ R (Itt K a) H1)
theorem pi_seqA {X : Cx} {tg l : Expr} {tl : TE} (hl : PE X l tl) : PI X tg l (iSeqA X.K tl) := by
  refine ⟨fun pins s σ H R I h => ?_⟩
  refine thn (hl.run pins s σ H _ I h) fun v s1 ⟨x, H1, I1, r1, q1⟩ => ?_
  rcases q1 with ⟨a, e, ⟨xs, hq⟩, q⟩ | ⟨a, e, ⟨xs, hq⟩, q⟩
  · subst e
    cases r1
    obtain ⟨its, rv, p, hz⟩ := I1.list hq
    refine wpAny_pyIter_list p.isList ?_
    refine ⟨s1.heap.objs.size, [s1.heap.objs.size], _, _, H1, rfl, I1.kept (t' := s1.toks) fun b o e => Heap.get?_push_of_some _ e, turn_list a _, ⟨_, Heap.get?_push_size _ rfl, rfl, rfl⟩, fun b hb => ?_, q⟩
    have e : b = s1.heap.objs.size := by simpa using hb
    subst e
    exact I1.fpOk (Nat.le_refl _) (I1.hok.fresh (Nat.le_refl _))
  · subst e
    cases r1
    obtain ⟨its, rv, p, hz⟩ := I1.tuple hq
    refine wpAny_pyIter_tuple (show s1.heap.IsTuple a its.toArray from p) ?_
    refine ⟨s1.heap.objs.size, [s1.heap.objs.size], _, _, H1, rfl, I1.kept (t' := s1.toks) fun b o e => Heap.get?_push_of_some _ e, turn_tuple a _, ⟨_, Heap.get?_push_size _ rfl, rfl, rfl⟩, fun b hb => ?_, q⟩
    have e : b = s1.heap.objs.size := by simpa using hb
    subst e
    exact I1.fpOk (Nat.le_refl _) (I1.hok.fresh (Nat.le_refl _))
end TD
/-! # TD, 7: what is walked; comprehensions as rules; defs and calls -/
namespace TD
open PySem PySem.Spec PyProof.Rows L2

/-! ### sources -/
def SrcOk (K : PySem.W.Frag) (Z : Addr → Prop) (b : Bool) (a : Addr) (ds : List D) (G0 : GH) (H0 : Hp) (Gd : GH → Prop) : Prop :=
  ∀ (Z' : Addr → Prop) G H, (∀ a, H0 a ≠ none → Z' a → Z a) → Fr G0 H0 G H → HR K Z' G H → Gd G → ∃ vs, SqB K H b a vs ∧ DVs K Z' G H ds vs ∧ vs.length ≤ sizeLine
def srcD (z : D) (G : GH) (R : List D → (GH → Prop) → Prop) : Prop := match z with
  | .tup xs => R xs (fun _ => True)
  | .lst xs => R xs (fun _ => True)
  | .scr ns => R (ns.map D.int) (fun _ => True)
  | .ref a => ∃ xs, G a = some (.lst xs) ∧ R xs (fun G => G a = some (.lst xs))
  | _ => False
theorem src_ok {K : PySem.W.Frag} {Z : Addr → Prop} {G : GH} {H : Hp} {z : D} {v : V} {R : List D → (GH → Prop) → Prop} (hr : HR K Z G H) (d : DV K Z G H z v) (h : srcD z G R) :
    ∃ b a ds Gd, v = .ref a ∧ R ds Gd ∧ Gd G ∧ SrcOk K Z b a ds G H Gd ∧ ds.length ≤ sizeLine := by
  unfold srcD at h
  split at h
  · cases d with
    | tup n1 g1 h1 z1 r1 => exact ⟨true, _, _, _, rfl, h, trivial, fun Z' G' H' up f r _ => ⟨_, SqT.of (f _ _ h1 g1).1, (r1.zmono up).mono f, z1⟩, by rw [r1.length]; exact z1⟩
  · cases d with
    | lst n1 g1 h1 z1 r1 => exact ⟨false, _, _, _, rfl, h, trivial, fun Z' G' H' up f r _ => ⟨_, SqL.of (f _ _ h1 g1).1, (r1.zmono up).mono f, z1⟩, by rw [r1.length]; exact z1⟩
  · cases d with
    | scr h1 z1 => exact ⟨false, _, _, _, rfl, h, trivial, fun Z' G' H' up f r _ => ⟨_, (h1.mono f).seq, DVs.of_ints _, by rw [List.length_map]; exact z1⟩, by rw [List.length_map]; exact z1⟩
  · cases d
    obtain ⟨xs, g, q⟩ := h
    obtain ⟨ws, _, r0, z0⟩ := hr.at_ _ _ g
    refine ⟨false, _, xs, _, rfl, q, g, fun Z' G' H' up f r gd => ?_, by rw [r0.length]; exact z0⟩
    obtain ⟨vs, h1, r1, z1⟩ := r.at_ _ _ gd
    exact ⟨vs, SqL.of h1, r1, z1⟩
  · exact h.elim
theorem SqB.inj_of {K : PySem.W.Frag} {H : Hp} {b : Bool} {a : Addr} {xs : List V} {x : V} {i : Nat} (h : ∀ xs, SqB K H b a xs → xs[i]? = some x) (q : SqB K H b a xs) : xs[i]? = some x := h xs q
/-- at each turn the item itself -/
theorem it_seq {K : PySem.W.Frag} {Z : Addr → Prop} {b : Bool} {a : Addr} {ds : List D} {G0 : GH} {H0 : Hp} {Gd : GH → Prop} (s : SrcOk K Z b a ds G0 H0 Gd) (hz : ds.length ≤ sizeLine) :
    ItOk K Z (match b with | true => Itt K a | false => Itl K a) ds G0 H0 Gd := by
  refine ⟨hz, fun Z' i G H up f r gd hi => ?_, fun Z' G H up f r gd => ?_, fun Z' i G H x H' up f r gd hi y => ?_⟩
  · obtain ⟨vs, q, dv, _⟩ := s Z' G H up f r gd
    obtain ⟨v, hv, _⟩ := dv.get (i := i) (d := ds[i]) (by simp [hi])
    cases b with
    | true => exact ⟨vs, v, q, hv⟩
    | false => exact ⟨vs, v, q, hv⟩
  · obtain ⟨vs, q, dv, _⟩ := s Z' G H up f r gd
    have l := dv.length
    cases b with
    | true => exact ⟨vs, q, by omega⟩
    | false => exact ⟨vs, q, by omega⟩
  · obtain ⟨vs, q, dv, _⟩ := s Z' G H up f r gd
    have hx : H' = H ∧ vs[i]? = some x := by
      cases b with
      | true => exact ⟨y.1, y.2 vs q⟩
      | false => exact ⟨y.1, y.2 vs q⟩
    obtain ⟨e, hx⟩ := hx
    obtain ⟨d, hd, r2⟩ := dv.getV hx
    exact ⟨d, hd, e ▸ Fr.refl G H', e ▸ r, e ▸ r2⟩
def dEnum : Nat → List D → List D
  | _, [] => []
  | i, d :: r => .tup [.int (i : Int), d] :: dEnum (i + 1) r
theorem dEnum_length : ∀ (ds : List D) (i : Nat), (dEnum i ds).length = ds.length
  | [], _ => rfl
  | _ :: r, i => by rw [dEnum, List.length_cons, List.length_cons, dEnum_length r]
theorem dEnum_get : ∀ (ds : List D) (i j : Nat) (d : D), ds[j]? = some d → (dEnum i ds)[j]? = some (.tup [.int ((i + j : Nat) : Int), d])
  | [], _, _, _, h => by simp at h
  | e :: r, i, 0, d, h => by
    simp at h
    subst h
    simp [dEnum]
  | e :: r, i, j + 1, d, h => by
    have ih := dEnum_get r (i + 1) j d (by simpa using h)
    rw [dEnum, List.getElem?_cons_succ, ih]
    congr 5
    omega
theorem pair_new {K : PySem.W.Frag} {Z : Addr → Prop} {G : GH} {H : Hp} {T : Addr} {x y : D} {vx vy : V} (hr : HR K Z G H) (e : H T = none) (dx : DV K Z G H x vx) (dy : DV K Z G H y vy) :
    Fr G H G (upd H T (.tup [vx, vy])) ∧ HR K Z G (upd H T (.tup [vx, vy])) ∧ DV K Z G (upd H T (.tup [vx, vy])) (.tup [x, y]) (.ref T) :=
  ⟨Fr.new e, hr.new e, .tup (hr.noZ e) (hr.free e) upd_same (by show 2 ≤ sizeLine; decide) (.cons (dx.mono (Fr.new e)) (.cons (dy.mono (Fr.new e)) .nil))⟩
theorem it_enum {K : PySem.W.Frag} {Z : Addr → Prop} {b : Bool} {a : Addr} {ds : List D} {G0 : GH} {H0 : Hp} {Gd : GH → Prop} (s : SrcOk K Z b a ds G0 H0 Gd) (hz : ds.length ≤ sizeLine) :
    ItOk K Z (IteB K b a) (dEnum 0 ds) G0 H0 Gd := by
  refine ⟨by rw [dEnum_length]; exact hz, fun Z' i G H up f r gd hi => ?_, fun Z' G H up f r gd => ?_, fun Z' i G H x H' up f r gd hi y => ?_⟩
  · obtain ⟨vs, q, dv, _⟩ := s Z' G H up f r gd
    rw [dEnum_length] at hi
    obtain ⟨v, hv, _⟩ := dv.get (i := i) (d := ds[i]) (by simp [hi])
    exact ⟨vs, v, q, hv⟩
  · obtain ⟨vs, q, dv, _⟩ := s Z' G H up f r gd
    exact ⟨vs, q, by rw [dEnum_length, dv.length]⟩
  · obtain ⟨vs, q, dv, _⟩ := s Z' G H up f r gd
    obtain ⟨T, x0, e1, e2, e3, hx⟩ := y
    obtain ⟨d, hd, r2⟩ := dv.getV (hx vs q)
    subst e1 e3
    obtain ⟨f3, r3, d3⟩ := pair_new r e2 (.int (i : Nat)) r2
    have e := dEnum_get ds 0 i d hd
    rw [Nat.zero_add] at e
    exact ⟨_, e, f3, r3, d3⟩
def zipD (xs ys : List D) : List D := List.zipWith (fun x y => D.tup [x, y]) xs ys
theorem it_zip {K : PySem.W.Frag} {Z : Addr → Prop} {b1 b2 : Bool} {a1 a2 : Addr} {ds es : List D} {G0 : GH} {H0 : Hp} {Gd1 Gd2 : GH → Prop} (s1 : SrcOk K Z b1 a1 ds G0 H0 Gd1) (s2 : SrcOk K Z b2 a2 es G0 H0 Gd2) (hz : ds.length ≤ sizeLine) :
    ItOk K Z (ItzB K b1 b2 a1 a2) (zipD ds es) G0 H0 (fun G => Gd1 G ∧ Gd2 G) := by
  have len : (zipD ds es).length = min ds.length es.length := by unfold zipD; rw [List.length_zipWith]
  refine ⟨by rw [len]; omega, fun Z' i G H up f r gd hi => ?_, fun Z' G H up f r gd => ?_, fun Z' i G H x H' up f r gd hi y => ?_⟩
  · obtain ⟨vs, q, dv, _⟩ := s1 Z' G H up f r gd.1
    obtain ⟨us, q2, du, _⟩ := s2 Z' G H up f r gd.2
    rw [len] at hi
    obtain ⟨v, hv, _⟩ := dv.get (i := i) (d := ds[i]'(by omega)) (by rw [List.getElem?_eq_getElem])
    obtain ⟨u, hu, _⟩ := du.get (i := i) (d := es[i]'(by omega)) (by rw [List.getElem?_eq_getElem])
    exact ⟨vs, us, v, u, q, q2, hv, hu⟩
  · obtain ⟨vs, q, dv, _⟩ := s1 Z' G H up f r gd.1
    obtain ⟨us, q2, du, _⟩ := s2 Z' G H up f r gd.2
    have l1 := dv.length
    have l2 := du.length
    exact ⟨vs, us, q, q2, by omega, by omega, by omega⟩
  · obtain ⟨vs, q, dv, _⟩ := s1 Z' G H up f r gd.1
    obtain ⟨us, q2, du, _⟩ := s2 Z' G H up f r gd.2
    obtain ⟨T, x0, y0, e1, e2, e3, hx, hy⟩ := y
    obtain ⟨d, hd, r2⟩ := dv.getV (hx vs q)
    obtain ⟨e, he, r3⟩ := du.getV (hy us q2)
    subst e1 e3
    obtain ⟨f3, r3, d3⟩ := pair_new r e2 r2 r3
    refine ⟨_, ?_, f3, r3, d3⟩
    unfold zipD
    rw [List.getElem?_zipWith, hd, he]
def rngD (lo : Int) (n : Nat) : List D := (List.range n).map fun i => D.int (lo + (i : Nat))
theorem it_range {K : PySem.W.Frag} {Z : Addr → Prop} {lo : Int} {n : Nat} {G0 : GH} {H0 : Hp} (hz : n ≤ sizeLine) : ItOk K Z (Itr lo n) (rngD lo n) G0 H0 (fun _ => True) := by
  have len : (rngD lo n).length = n := by unfold rngD; rw [List.length_map, List.length_range]
  refine ⟨by rw [len]; exact hz, fun Z' i G H up f r gd hi => by rw [len] at hi; exact hi, fun Z' G H up f r gd => by rw [len]; exact Nat.le_refl _, fun Z' i G H x H' up f r gd hi y => ?_⟩
  obtain ⟨e1, e2⟩ := y
  subst e1 e2
  rw [len] at hi
  exact ⟨_, by unfold rngD; rw [List.getElem?_map, List.getElem?_range hi] <;> rfl, Fr.refl _ _, r, .int _⟩
def signs (w : Str) : List D := w.cps.toList.map fun c => D.str ⟨#[c]⟩
theorem it_str {K : PySem.W.Frag} {Z : Addr → Prop} {w : Str} {G0 : GH} {H0 : Hp} (hz : w.length ≤ sizeLine) : ItOk K Z (Its w) (signs w) G0 H0 (fun _ => True) := by
  have len : (signs w).length = w.cps.size := by unfold signs; rw [List.length_map, Array.length_toList]
  refine ⟨by rw [len]; exact hz, fun Z' i G H up f r gd hi => by rw [len] at hi; exact hi, fun Z' G H up f r gd => by rw [len]; exact Nat.le_refl _, fun Z' i G H x H' up f r gd hi y => ?_⟩
  obtain ⟨e1, c, e2, e3⟩ := y
  subst e1 e3
  refine ⟨_, ?_, Fr.refl _ _, r, .str _⟩
  unfold signs
  rw [List.getElem?_map, Array.getElem?_toList, e2] <;> rfl

def dISeq (a : DE) : DI := fun ρ x G R => a ρ x G fun z G1 => srcD z G1 fun ds Gd => R ds Gd G1
def dIStr (a : DE) : DI := fun ρ x G R => a ρ x G fun z G1 => ∃ w, z = .str w ∧ w.length ≤ sizeLine ∧ R (signs w) (fun _ => True) G1
def dIEnum (t : DA) : DI := fun ρ x G R => t ρ x G fun zs G1 => ∃ z, zs = [z] ∧ srcD z G1 fun ds Gd => R (dEnum 0 ds) Gd G1
def dIZip (t : DA) : DI := fun ρ x G R => t ρ x G fun zs G1 => ∃ z y, zs = [z, y] ∧ srcD z G1 fun ds Gd => srcD y G1 fun es Ge => R (zipD ds es) (fun G => Gd G ∧ Ge G) G1
def dIRng1 (t : DA) : DI := fun ρ x G R => t ρ x G fun zs G1 => ∃ n : Int, zs = [.int n] ∧ -(2 ^ 62) ≤ n ∧ n.toNat ≤ sizeLine ∧ R (rngD 0 n.toNat) (fun _ => True) G1
def dIRng2 (t : DA) : DI := fun ρ x G R => t ρ x G fun zs G1 => ∃ m n : Int, zs = [.int m, .int n] ∧ (-(2 ^ 62) ≤ m ∧ m < 2 ^ 62 ∧ -(2 ^ 62) ≤ n ∧ n < 2 ^ 62) ∧ (n - m).toNat ≤ sizeLine ∧ R (rngD m (n - m).toNat) (fun _ => True) G1
section
variable {X : Cx} {W : WX} {tg e e1 e2 : Expr} {a : DE} {t : DA} {p pos tpos : Pos} {elts : List Expr} {kk : Nat}
theorem pdi_seq (ha : PD X W e a) : PDI X W tg e (dISeq a) := PI.imp (pi_seqA ha) fun σ H R ⟨Z, ρ, x, G, Qd, sr, hr, h, c, xo⟩ => ⟨Z, ρ, x, G, _, sr, hr, h, fun z v G1 H1 f1 r1 d1 q1 => by
  obtain ⟨b, ad, ds, Gd, ev, q, gd, so, hz⟩ := src_ok r1 d1 q1
  have it := it_seq so hz
  obtain ⟨vs, sq, _⟩ := so Z G1 H1 (fun _ _ z => z) (Fr.refl _ _) r1 gd
  cases b with
  | true => exact .inr ⟨ad, ev, ⟨vs, sq⟩, c ds Gd G1 H1 _ f1 r1 it q⟩
  | false => exact .inl ⟨ad, ev, ⟨vs, sq⟩, c ds Gd G1 H1 _ f1 r1 it q⟩, xo⟩
theorem pdi_str (ha : PD X W e a) : PDI X W tg e (dIStr a) := PI.imp (pi_str ha) fun σ H R ⟨Z, ρ, x, G, Qd, sr, hr, h, c, xo⟩ => ⟨Z, ρ, x, G, _, sr, hr, h, fun z v G1 H1 f1 r1 d1 ⟨w, ez, hz, q⟩ => by
  subst ez
  cases d1
  exact ⟨w, rfl, c _ _ G1 H1 _ f1 r1 (it_str hz) q⟩, xo⟩
theorem pdi_enum (hm : X.mg "enumerate" = none) (ha : PDA X W [e] t) (hg : Gl X "enumerate" := by rfl) (hs : starEach [e] X.env = [(false, eval e X.env)] := by rfl) :
    PDI X W (.Tuple elts kk tpos) (.Call (.Name "enumerate" p) [e] [] pos) (dIEnum t) := PI.imp (pi_enumB hg hm ha hs) fun σ H R ⟨Z, ρ, x, G, Qd, sr, hr, h, c, xo⟩ => ⟨Z, ρ, x, G, _, sr, hr, h, fun zs vs G1 H1 f1 r1 d1 ⟨z, ez, q⟩ => by
  subst ez
  obtain ⟨v, rfl, d⟩ := d1.one
  obtain ⟨b, ad, ds, Gd, ev, q, gd, so, hz⟩ := src_ok r1 d q
  obtain ⟨vs, sq, _⟩ := so Z G1 H1 (fun _ _ z => z) (Fr.refl _ _) r1 gd
  exact ⟨b, ad, vs, by rw [ev], sq, c _ _ G1 H1 _ f1 r1 (it_enum so hz) q⟩, xo⟩
theorem pdi_zip (hm : X.mg "zip" = none) (ha : PDA X W [e1, e2] t) (hg : Gl X "zip" := by rfl) (hs : starEach [e1, e2] X.env = (false, eval e1 X.env) :: starEach [e2] X.env := by rfl) (hpl : (backTo pos (starEach [e2] X.env)).any (·.1) = false := by rfl) :
    PDI X W (.Tuple elts kk tpos) (.Call (.Name "zip" p) [e1, e2] [] pos) (dIZip t) := PI.imp (pi_zipB hg hm ha hs hpl) fun σ H R ⟨Z, ρ, x, G, Qd, sr, hr, h, c, xo⟩ => ⟨Z, ρ, x, G, _, sr, hr, h, fun zs vs G1 H1 f1 r1 d1 ⟨z, y, ez, q⟩ => by
  subst ez
  obtain ⟨v, u, rfl, dz, dy⟩ := d1.two
  obtain ⟨b, ad, ds, Gd, ev, q, gd, so, hz⟩ := src_ok r1 dz q
  obtain ⟨b', ad', es, Ge, ev', q, gd', so', hz'⟩ := src_ok r1 dy q
  obtain ⟨vs, sq, _⟩ := so Z G1 H1 (fun _ _ z => z) (Fr.refl _ _) r1 gd
  obtain ⟨us, sq', _⟩ := so' Z G1 H1 (fun _ _ z => z) (Fr.refl _ _) r1 gd'
  exact ⟨b, b', ad, ad', vs, us, by rw [ev, ev'], sq, sq', c _ _ G1 H1 _ f1 r1 (it_zip so so' hz) q⟩, xo⟩
theorem pdi_range1 (hm : X.mg "range" = none) (ha : PDA X W [e] t) (hg : Gl X "range" := by rfl) (hs : starEach [e] X.env = [(false, eval e X.env)] := by rfl) :
    PDI X W tg (.Call (.Name "range" p) [e] [] pos) (dIRng1 t) := PI.imp (pi_range1 hg hm ha hs) fun σ H R ⟨Z, ρ, x, G, Qd, sr, hr, h, c, xo⟩ => ⟨Z, ρ, x, G, _, sr, hr, h, fun zs vs G1 H1 f1 r1 d1 ⟨n, ez, h1, h2, q⟩ => by
  subst ez
  obtain ⟨v, rfl, d⟩ := d1.one
  cases d
  exact ⟨n, rfl, h1, by rw [sizeLine_eq] at h2; omega, c _ _ G1 H1 _ f1 r1 (it_range h2) q⟩, xo⟩
theorem pdi_range2 (hm : X.mg "range" = none) (ha : PDA X W [e1, e2] t) (hg : Gl X "range" := by rfl) (hs : starEach [e1, e2] X.env = [(false, eval e1 X.env), (false, eval e2 X.env)] := by rfl) (hs2 : starEach [e2] X.env = [(false, eval e2 X.env)] := by rfl) :
    PDI X W tg (.Call (.Name "range" p) [e1, e2] [] pos) (dIRng2 t) := PI.imp (pi_range2 hg hm ha hs hs2) fun σ H R ⟨Z, ρ, x, G, Qd, sr, hr, h, c, xo⟩ => ⟨Z, ρ, x, G, _, sr, hr, h, fun zs vs G1 H1 f1 r1 d1 ⟨m, n, ez, h1, h2, q⟩ => by
  subst ez
  obtain ⟨v, u, rfl, dz, dy⟩ := d1.two
  cases dz
  cases dy
  exact ⟨m, n, rfl, h1, c _ _ G1 H1 _ f1 r1 (it_range h2) q⟩, xo⟩
end

/-! ### comprehensions -/
abbrev PDTs (X : Cx) (W : WX) (ifs : List Expr) (d : DT) : Prop := PTs X ifs (lowT X.K W d)
def dYes : DT := fun _ _ G Q => Q true G
section
variable {X : Cx} {W : WX}
theorem pdts_nil : PDTs X W [] dYes := ⟨fun pins s σ H Q I ⟨Z, ρ, x, G, Qd, sr, hr, h, c, xo⟩ => pts_nil.run pins s σ H Q I (show Q true H from c true G H (Fr.refl G H) hr h)⟩
theorem pdts_one {c : Expr} {d : DT} (h : PDT X W c d) : PDTs X W [c] d := pts_one h
variable {elt tg iter : Expr} {ifs : List Expr} {scope : Scope} {own : List (Str × Nat)} {pos : Pos} {di : DI} {g : DG} {t : DT} {e : DE}
theorem pd_lc (own : List (Str × Nat)) (hc : X.calm = true) (hN : X.N.Nodup) (hi : PDI X W tg iter di) (ok : BlkOk X.N X.env.scope scope own)
    (hg : ∀ (s : Shared) (H : Hp) (C : Addr) (cl : List (Str × Addr)) (fp : List Addr), PDG (X.blk s H scope (compEnvC scope cl C X.env) fp) WF (own.map (·.2)) tg g)
    (ht : ∀ (s : Shared) (H : Hp) (C : Addr) (cl : List (Str × Addr)) (fp : List Addr), PDTs (X.blk s H scope (compEnvC scope cl C X.env) fp) WF ifs t)
    (he : ∀ (s : Shared) (H : Hp) (C : Addr) (cl : List (Str × Addr)) (fp : List Addr), PD (X.blk s H scope (compEnvC scope cl C X.env) fp) WF elt e) (hs : ∀ x, foldedSetIterable iter X.env x = pure x := by intro _; rfl) :
    PD X W (.ListComp elt [⟨tg, iter, ifs, 0⟩] scope pos) (dLc di g t e (own.map (·.2))) := PE.imp (pe_lc hc hN hi ok hg ht he hs) low_lc
/-- y = [..] -/
theorem pds_setLc (i : Nat) (own : List (Str × Nat)) {y : Str} {py spos : Pos} (hc : X.calm = true) (hN : X.N.Nodup) (hi : PDI X W tg iter di) (ok : BlkOk X.N X.env.scope scope own)
    (hg : ∀ (s : Shared) (H : Hp) (C : Addr) (cl : List (Str × Addr)) (fp : List Addr), PDG (X.blk s H scope (compEnvC scope cl C X.env) fp) WF (own.map (·.2)) tg g)
    (ht : ∀ (s : Shared) (H : Hp) (C : Addr) (cl : List (Str × Addr)) (fp : List Addr), PDTs (X.blk s H scope (compEnvC scope cl C X.env) fp) WF ifs t)
    (he : ∀ (s : Shared) (H : Hp) (C : Addr) (cl : List (Str × Addr)) (fp : List Addr), PD (X.blk s H scope (compEnvC scope cl C X.env) fp) WF elt e)
    (hsw : swapsWith (.ListComp elt [⟨tg, iter, ifs, 0⟩] scope pos) (some (.Name y py)) spos.line X.env = pure true)
    (hy : X.N[i]? = some y := by rfl) (hyl : X.env.scope.names.lookup y = some .local := by rfl) (hs : ∀ x, foldedSetIterable iter X.env x = pure x := by intro _; rfl) :
    PDS X W (.Assign [.Name y py] (.ListComp elt [⟨tg, iter, ifs, 0⟩] scope pos) spos) (dAsg (dLc di g t e (own.map (·.2))) (gdName i)) :=
  PS.imp (ps_setLc hc hN hy hyl hsw hi ok hg ht he hs) fun E σ H ⟨Z, ρ, G, Dd, sr, hr, h, ok⟩ => low_lc σ H _
    ⟨Z, ρ, Dd.xx ρ, G, _, sr, hr, h, fun z v G1 H1 f1 r1 d1 q1 => ok.nx _ _ G1 H1 f1 r1 ((sr.mono f1).set d1 i) q1, ok.xo sr⟩
end

/-! ### defs -/
/-- a promise at the level of data: arguments, what is told, what follows, what is raised -/
abbrev SpD := List D → GH → DK → XD → Prop
def lowSp (K : PySem.W.Frag) (sp : SpD) : Sp := fun vs H Q E => ∃ (Z : Addr → Prop) (zs : List D) (G : GH) (Qd : DK) (x : XD), DVs K Z G H zs vs ∧ HR K Z G H ∧ sp zs G Qd x ∧ Ret K Z G H Qd Q ∧ XOk K Z (fun c d _ H' => E c d H') G H [] x
def dstart (N : List Str) (zs : List D) : Rho := zs.map some ++ List.replicate (N.length - zs.length) none
theorem sr_start {K : PySem.W.Frag} {Z : Addr → Prop} {G : GH} {H : Hp} {N : List Str} {zs : List D} {vs : List V} (r : DVs K Z G H zs vs) : SR K Z G H (dstart N zs) (L2.start N vs) := by
  have l := r.length
  refine ⟨by unfold dstart L2.start; simp [l], fun i d e => ?_⟩
  unfold dstart at e
  unfold L2.start
  by_cases hi : i < zs.length
  · rw [List.getElem?_append_left (by rw [List.length_map]; exact hi), List.getElem?_map] at e
    rw [List.getElem?_append_left (by rw [List.length_map, ← l]; exact hi), List.getElem?_map]
    cases q : zs[i]? with
    | none => rw [q] at e; cases e
    | some z =>
      rw [q] at e
      cases e
      obtain ⟨v, h1, h2⟩ := r.get q
      exact ⟨v, by rw [h1] <;> rfl, h2⟩
  · rw [List.getElem?_append_right (by rw [List.length_map]; omega), List.getElem?_replicate] at e
    split at e <;> cases e
section
variable {P : Program} {w : World} {K : PySem.W.Frag} {mg : Str → Option Value} {base : Heap}
abbrev FnD (P : Program) (w : World) (K : PySem.W.Frag) (mg : Str → Option Value) (base : Heap) (k : Nat) (f : Addr) (fd : FuncData) (ps : List Str) (sp : SpD) : Prop := FnOk P w K mg base (L2.CX P w) k f fd ps (lowSp K sp)
/-- THE RULE for a def -/
theorem fnD {x qual : Str} {st : Stmt} {f : Addr} {fd : FuncData} {N ps : List Str} {k : Nat} {sp : SpD} {ds : DS} (F : Fun K x qual st f fd) (S : FnScope N ps (defScope st)) (len : ∀ zs G Q x, sp zs G Q x → zs.length = ps.length)
    (der : ∀ (cdv : Value) (A : Around) (outer : List Env) (s : Shared) (H : Hp) (E : XK), Room k (A.deeper (envOfC qual (defScope st) s.heap.objs.size f cdv)) →
      Takes (cxOf (L2.CX P w) P w K mg base N qual (defScope st) f cdv A outer s H E) (fun c d _ H' => E c d H') →
      PDSs (cxOf (L2.CX P w) P w K mg base N qual (defScope st) f cdv A outer s H E) (fun c d _ H' => E c d H') (defBody st) ds)
    (read : ∀ (zs : List D) (G : GH) (Q : DK) (x : XD), sp zs G Q x → ds { nx := fun _ G' => Q .non G', rt := Q, xx := fun _ => x } (dstart N zs) G) : FnD P w K mg base (k + 1) f fd ps sp := by
  refine F.okX S (fun vs H Q E ⟨Z, zs, G, Qd, x, dv, hr, h, c, xo⟩ => by rw [← dv.length]; exact len zs G Qd x h) fun cdv A outer s H vs Q E hroom ⟨Z, zs, G, Qd, x, dv, hr, h, c, xo⟩ => ?_
  refine ⟨_, der cdv A outer s H E hroom (takes_of rfl rfl rfl rfl), Z, dstart N zs, G, _, sr_start dv, hr, read zs G Qd x h, ?_⟩
  exact ⟨fun ρ' σ' G' H' f' r' s' q' => c .non .non G' H' f' r' .non q', fun z v G' H' f' r' d' q' => c z v G' H' f' r' d' q', fun _ _ _ _ _ _ _ q => q.elim, fun _ _ _ _ _ _ _ q => q.elim, fun ρ' σ' G' H' f' s' => xo.mono f'⟩
end
/-- f(e, ..) -/
def dCall (sp : SpD) (t : DA) : DE := fun ρ x G Q => t ρ x G fun zs G1 => sp zs G1 Q x
section
variable {X : Cx} {W : WX} {k : Nat} {f : Addr} {fd : FuncData} {ps : List Str} {sp : SpD} {x : Str} {p pos : Pos} {e : Expr} {es : List Expr} {t : DA}
theorem low_call {K : PySem.W.Frag} : ∀ σ H Q, lowE K W (dCall sp t) σ H Q → tCallS (lowSp K sp) (WE W) (lowA K W t) σ H Q := fun σ H Q ⟨Z, ρ, x, G, Qd, sr, hr, h, c, xo⟩ =>
  ⟨Z, ρ, x, G, _, sr, hr, h, fun zs vs G1 H1 f1 r1 d1 q1 => ⟨Z, zs, G1, Qd, x, d1, r1, q1, Ret.mono f1 c, fun C fs d fv G2 H2 f2 r2 e n p q => xo C fs d fv G2 H2 (f1.trans f2) r2 e n p q⟩, xo⟩
theorem pd_call (F : FnD X.prog X.w X.K X.mg X.base k f fd ps sp) (hr : Room k X.A) (hm : X.mg x = some (.ref f)) (hk : PySem.W.keepIn X.K (.ref f) = true) (hb : Binds X.K fd ps []) (tk : Takes X W) (ha : PDA X W (e :: es) t) (hg : Gl X x := by rfl)
    (hdb : (x == ("__debug__" : Str)) = false := by decide) (he : starEach (e :: es) X.env = (false, eval e X.env) :: starEach es X.env := by rfl) (hpl : (backTo pos (starEach es X.env)).any (·.1) = false := by rfl) :
    PD X W (.Call (.Name x p) (e :: es) [] pos) (dCall sp t) := PE.imp (pe_callS F hr hg hm hk hb (fun σ => passAt tk σ) ha hdb he hpl) low_call
end
end TD
/-! # TD, 8: own errors whose __init__ says super().__init__(x); self.f = x, below an own error class, below ValueError -/
namespace ErrX
open PySem PySem.W PySem.Calls PyProof.Rows PySem.HandSPX

inductive EF where
  | name | word | line
def EF.fld : EF → Str
  | .name => "name"
  | .word => "word"
  | .line => "line"
def EF.cls : EF → Str
  | .name => "BadArgument"
  | .word => "NotPossible"
  | .line => "BadText"
def EF.qual : EF → Str
  | .name => "BadArgument.__init__"
  | .word => "NotPossible.__init__"
  | .line => "BadText.__init__"
def iA (f : Str) (p1 p2 : Pos) : Arguments := { posonlyargs := [], args := [{ arg := "self", annotation := none, pos := p1 }, { arg := f, annotation := none, pos := p2 }], vararg := none, kwonlyargs := [], kw_defaults := [], kwarg := none, defaults := [] }
def iB (f : Str) (p0 p1 p2 p3 p4 p5 q1 q2 q3 q4 : Pos) : List Stmt :=
  [.Expr (.Call (.Attribute (.Call (.Name "super" p0) [] [] p1) "__init__" p2) [.Name f p3] [] p4) p5, .Assign [.Attribute (.Name "self" q1) f q2] (.Name f q3) q4]
def iS (f : Str) : Scope := { kind := .function, names := [(PySem.Str.ofString "self", .local), (f, .local), (PySem.Str.ofString "__class__", .free), (PySem.Str.ofString "super", .globalImplicit)], isGenerator := false, isCoroutine := false, more := [] }
/-- what the written part says of the class, at C, and of its __init__, at fI -/
structure Txt (P : Program) (K : Frag) (mg : Str → Option Value) (ef : EF) (C fI : Addr) : Prop where
  gC : mg ef.cls = some (.ref C)
  gS : mg "super" = none
  top : (P.main.scope.names.lookup ("super" : Str)).isSome = false
  cls : ∃ nm q N bs bm sn sub ab col dd k0 k1 k2 k3 k5, K.lookup C = some (excClassObj nm q C N bs bm true sn sub ab col dd k0 k1 k2 k3 k5 "ValueError.__new__") ∧ refsVE bm = true ∧ alongIn K "__init__" bm = some (some (.builtin "ValueError.__init__"))
  sa : findIn K (.ref C) "__setattr__" = some (some (.builtin "object.__setattr__"))
  ga : findIn K (.ref C) "__getattribute__" = some (some (.builtin "BaseException.__getattribute__"))
  gg : findIn K (.ref C) "__getattr__" = some none
  noN : findIn K (.ref C) ef.fld = some none
  iC : findIn K (.ref C) "__init__" = some (some (.ref fI))
  tC : typeIn K (.ref fI) = some (.type "function")
  kC : keepIn K (.ref C) = true
  exC : subIn K (.ref C) (.type "BaseException") = some true
  veC : subIn K (.ref C) (.type "ValueError") = some true
  slf : mroIn K C (.ref C) = some true
  tyC : typeIn K (.ref C) = some (.type "type")
  hdC : hasDictIn K C = true
  te : exmOne K (.ref C) (.ref C) = some true
  op : nsIn K cStatics "thirdparty.any" = some none
  fn : ∃ (oc : Value) (od : Option Addr) (doc pm : Value) (an : Option Addr) (cda : Addr) (ct : Value) (cc : Addr) (osl : Array (Option Value)) (p1 p2 r0 r1 r2 r3 r4 r5 q1 q2 q3 q4 : Pos),
    K.lookup fI = some ⟨oc, od, .func (ksFn "__init__" ef.qual (iA ef.fld p1 p2) (iB ef.fld r0 r1 r2 r3 r4 r5 q1 q2 q3 q4) (iS ef.fld) .none .none doc pm an (.ref cda) ct cc), osl⟩ ∧ codeIn K (.ref cda) ef.qual = true ∧ (r2.endLine == r4.line) = true ∧
    (∃ ccl cdd vs ccs file tf, K.lookup cda = some ⟨ccl, cdd, .fields vs, ccs⟩ ∧ vs[2]? = some (.str file tf) ∧ ((P.main.file : Str) == file) = true) ∧
    ∃ cl cld csl, K.lookup cc = some ⟨cl, cld, .cell (some (.ref C)), csl⟩
theorem nocell (ef : EF) : ∀ x ∈ (iS ef.fld).names, x.2 ≠ .cell := by cases ef <;> decide
theorem bloc (ef : EF) (u v : Value) : ∀ y ∈ [((PySem.Str.ofString "self" : Str), u), (ef.fld, v)], (iS ef.fld).names.lookup y.1 = some .local := by
  intro y hy
  rcases List.mem_cons.mp hy with rfl | hy
  · cases ef <;> rfl
  · obtain rfl := List.mem_singleton.mp hy
    cases ef <;> rfl
theorem one_size (v : Value) : [v].length ≤ sizeLine := by
  rw [sizeLine_eq]
  exact (by decide : 1 ≤ 16777216)
theorem drop_own (C : Addr) (l : List Value) : ((Value.ref C :: l).dropWhile (· != .ref C)).drop 1 = l := by
  simp [List.dropWhile_cons]
/-- what __init__ leaves of a fresh exception at x -/
structure InitEnd (ef : EF) (h h' : Heap) (x C dx t1 : Addr) (v : Value) : Prop where
  keep : ∀ b o, b ≠ x → h.get? b = some o → h'.get? b = some o
  obj : h'.get? x = some { cls := .ref C, dict := some dx, data := .fields #[.ref t1, .none, .none, .none, .bool false, .none] }
  dbig : h.objs.size ≤ dx
  dne : dx ≠ x
  ns : h'.Ns1 dx (fun y => if y = ef.fld then some v else none)
/-- a made one -/
structure OwnMade (ef : EF) (h h' : Heap) (e C d : Addr) (v : Value) : Prop where
  keep : ∀ b o, h.get? b = some o → h'.get? b = some o
  new : h.objs.size ≤ e
  obj : ∃ oe vs, h'.get? e = some oe ∧ oe.cls = .ref C ∧ oe.dict = some d ∧ oe.data = .fields vs ∧ vs[1]? = some .none
  dbig : h.objs.size ≤ d
  dne : d ≠ e
  ns : h'.Ns1 d (fun y => if y = ef.fld then some v else none)
section
variable {prog : Program} {w : World} {A : Around} {E : Value → Shared → Prop} {R : Result → Shared → Prop} {s : Shared} {K : Frag} {mg : Str → Option Value} {ef : EF} {C fI : Addr}
/-- ValueError.__init__ bound to a fresh exception, called -/
theorem call_mw {h : Heap} {g : Array GenState} {d : Drawn} {t : Nat} {os : OsState} {nm q : Str} {N : Addr} {bs bm : List Value} {hdct : Bool} {sn : List Str} {sub : List Value} {ab : Bool} {col : Option Bool} {dd : Option Addr} {k0 k1 k2 k3 k5 : Option Value}
    {u e t0 : Addr} {rest : List Value} {Q : Value → Shared → Prop}
    (hC : h.get? C = some (excClassObj nm q C N bs bm hdct sn sub ab col dd k0 k1 k2 k3 k5 "ValueError.__new__")) (he : h.get? e = some (excO C t0)) (hu : h.get? u = some (kxs_mw "ValueError.__init__" e)) (hrest : rest.length ≤ sizeLine)
    (hq : ∀ h' t1, (∀ b o, b ≠ e → h.get? b = some o → h'.get? b = some o) → h'.get? e = some (excO C t1) → h.objs.size ≤ h'.objs.size → Q .none ⟨h', g, d, t, os⟩) :
    wpAny (model prog w) A (call (.ref u) rest) Q E ⟨h, g, d, t, os⟩ := by
  refine wpAny_call (codeAny_of_tree ?_)
  show wpAny _ A.in1 (callAny (.ref u) ⟨rest, []⟩) _ _ _
  simp only [callAny]
  refine wpAny_bind (wpAny_load hu ?_)
  simp only [kxs_mw, show (Value.type "method-wrapper" == Value.type "method" || Value.type "method-wrapper" == Value.type "builtin_function_or_method" || Value.type "method-wrapper" == Value.type "method-wrapper") = true by decide, if_true]
  refine KFB.if_so (by decide) ?_
  refine wpAny_bind (check_bound_init PySem.F.excBase_ValueError.toExcCallFacts hC he rfl ?_)
  refine wpAny_bind (wpAny_pure (wpAny_pure ?_))
  refine ⟨plainId_quiet PySem.F.excBase_ValueError.init.plain _, codeAny_builtin PySem.F.excBase_ValueError.initEntry ?_⟩
  refine exc_init_tree (cls := .ref C) (t0 := t0) (dv := none) (c2 := .none) (c3 := .none) (b4 := .bool false) he hrest fun h' k e' t' => hq h' _ k e' ?_
  exact Nat.le_of_lt (Heap.lt_size t')
theorem ldK {M : Model} {s : Shared} {name : Str} {scope : Scope} {L a cc : Addr} {cd : Value} {m : Str → Option Value} {x : Str} {pos : Pos} {v : Value} {Q : Value → Shared → Prop} {A : Around} {E : Value → Shared → Prop} (hn : s.heap.Ns L m) (hv : m x = some v) (h : Q v s)
    (hk : scope.kind = .function) (hl : (ksEnv name scope L a cd cc).kindOf x = some .local) (hd : (x == ("__debug__" : Str)) = false) :
    wpAny M A (eval (.Name x pos) (ksEnv name scope L a cd cc)) Q E s := wpAny_Name (wpAny_loadName_local hk hl hn hv h) hd
theorem call_tree {f : Str} {p0 p1 p2 p3 p4 : Pos} {env : Env} (hl : (p2.endLine == p4.line) = true) (hf : methodCallForm 1 (backTo p4 (starEach [.Name f p3] env)) [] = true) :
    eval (.Call (.Attribute (.Call (.Name "super" p0) [] [] p1) "__init__" p2) [.Name f p3] [] p4) env = (do
      let ov ← attributeBase (.Call (.Name "super" p0) [] [] p1) "__init__" env (eval (.Call (.Name "super" p0) [] [] p1) env)
      standAt p2.atName
      let (f', first) ← holding [ov] (getMethod ov "__init__" (L2.plainOf (.Call (.Name "super" p0) [] [] p1) env))
      callWith p4 f' first (backTo p4 (starEach [.Name f p3] env)) []) := by
  rw [arm_eval_Call]
  have e : ∀ ov, methodCall (.Call (.Name "super" p0) [] [] p1) "__init__" p2 p4 env ov ([Expr.Name f p3].length + ([] : List Keyword).length) (backTo p4 (starEach [.Name f p3] env)) (backToKw p4 (keywordEach [] env)) = (do
      let (f', first) ← holding [ov] (getMethod ov "__init__" (L2.plainOf (.Call (.Name "super" p0) [] [] p1) env))
      callWith p4 f' first (backTo p4 (starEach [.Name f p3] env)) []) := fun ov => L2.mcall_line hf hl
  simp only [e]
theorem err_init (T : Txt prog K mg ef C fI) {x t0 : Addr} {v : Value} (M : L2.Mod K mg s.heap) (hx : s.heap.get? x = some (excO C t0)) (hnx : K.lookup x = none) (hroom : A.depth < recursionLimit)
    (hq : ∀ h' tk dx t1, InitEnd ef s.heap h' x C dx t1 v → R (.ok (.ret .none)) { s with heap := h', toks := tk }) :
    codeAny (model prog w) A (.call (.ref fI) ⟨[.ref x, v], []⟩) R s := by
  obtain ⟨oc, od, doc, pm, an, cda, ct, cc, osl, p1, p2, r0, r1, r2, r3, r4, r5, q1, q2, q3, q4, ho, hcd, hline, ⟨ccl, cdd, vs, ccs, file, tf, hcode, hvs, hfile⟩, cl, cld, csl, hcell⟩ := T.fn
  obtain ⟨nm, q, N, bs, bm, sn, sub, ab, col, dd, k0, k1, k2, k3, k5, hC, hbm, hal⟩ := T.cls
  have X := M.kin
  have hcl : clsIn K C = some { name := nm, bases := bs, mro := .ref C :: bm, ns := N, qualname := q, hasDict := true, slotNames := sn, subclasses := sub, abstract := ab, collection := col, hasDel := false } := by unfold clsIn; rw [hC] <;> rfl
  refine ks_codeAny_call_defAt (binds := [(PySem.Str.ofString "self", .ref x), (ef.fld, v)]) hroom (X _ _ ho) rfl M.nolimit (codeRec_of X hcd) rfl (BindsTo.of_eq (by cases ef <;> first | rfl | with_unfolding_all rfl)) (nocell ef) (bloc ef _ _) (fun h₁ hn k => ?_) rfl rfl rfl
  have hxL : s.heap.objs.size ≠ x := Nat.ne_of_gt (Heap.lt_size hx)
  have X₁ : K.In h₁ := X.keeps k
  have hx₁ := k _ _ hx
  have hsz : s.heap.objs.size < h₁.objs.size := hn.lt
  have lkS : List.lookup (PySem.Str.ofString "self") ([(PySem.Str.ofString "self", Value.ref x), (ef.fld, v)] : List (Str × Value)).reverse = some (Value.ref x) := by cases ef <;> rfl
  have lkF : List.lookup ef.fld ([(PySem.Str.ofString "self", Value.ref x), (ef.fld, v)] : List (Str × Value)).reverse = some v := by cases ef <;> rfl
  -- super()
  refine ks_wpAt_execs_cons (ks_wpAt_Expr_any (ks_wpAt_MethodCall (pl := L2.plainOf _ _) ?_ (call_tree hline ?_)) ?_ ?_)
  · obtain ⟨mb, hb1, hb2⟩ := M.blt
    refine ks_wpAt_super_base (f := fI) (cc := cda) (by cases ef <;> rfl) (by cases ef <;> rfl) (by decide) rfl (X₁ _ _ ho) rfl (ar := { arg := "self", annotation := none, pos := p1 }) rfl rfl (X₁ _ _ hcode) rfl hvs hfile T.top ?_
    refine ks_loadName_global rfl (by cases ef <;> rfl) (loadGlobal_builtin (M.glob.keeps k) T.gS (hb1.keeps k) ((hb2 _ (by decide)).trans (by decide +kernel : bootBuiltins "super" = some (.type "super"))) ⟨rfl, ?_⟩)
    refine wpAny_loadName_free rfl (by cases ef <;> rfl) rfl ⟨_, X₁ _ _ hcell, rfl⟩ ?_
    refine wpAny_loadName_local rfl (by cases ef <;> rfl) hn lkS ?_
    refine ks_wpAny_isType_cls (X₁ _ _ hC) rfl ⟨rfl, ?_⟩
    refine ks_wpAny_call_super (X₁ _ _ hC) rfl hx₁ rfl (fun c e => by cases e) (looks_mroIn X₁ T.slf) (fun h₂ e₂ k₂ => ?_)
    -- .__init__
    have X₂ : K.In h₂ := X₁.keeps k₂
    have hx₂ := k₂ _ _ hx₁
    have I₂ : InstAt h₂ x (excO C t0) C none := ⟨hx₂, rfl, rfl, trivial⟩
    have hI : Looks (model prog w) h₂ (isInstance (.ref x) (.type "ValueError")) true := I₂.type.andThen (looks_subIn X₂ T.veC)
    refine kxs_getMethod (l₀ := .ref C :: bm) kxs_ValueError e₂ (looks_opaque X₂ T.op) (fun A Q E s k q => wpAny_bind ((looks_clsIn X₂ hcl) A _ E s k (wpAny_pure q))) (drop_own C bm) X₂ hal hI (fun z => ?_) (by decide) ?_
    · have := X _ _ hC
      rw [← z, hx] at this
      cases this
    · have k₃ : ∀ b o, h₂.get? b = some o → (h₂.push (kxs_mw "ValueError.__init__" x)).get? b = some o := fun b o e => Heap.get?_push_of_some _ e
      have hu : (h₂.push (kxs_mw "ValueError.__init__" x)).get? h₂.objs.size = some (kxs_mw "ValueError.__init__" x) := Heap.get?_push_at rfl rfl
      have hn₂ : (h₂.push (kxs_mw "ValueError.__init__" x)).Ns s.heap.objs.size (fun y => List.lookup y ([(PySem.Str.ofString "self", Value.ref x), (ef.fld, v)] : List (Str × Value)).reverse) := hn.keeps fun b o e => k₃ b o (k₂ b o e)
      have xu : x ≠ h₂.objs.size := Nat.ne_of_lt (Heap.lt_size hx₂)
      refine kxs_callWith (i := "ValueError.__init__") (x := x) (by cases ef <;> rfl) ?_
      refine evalArgs_plain ?_
      refine spliced_cons ?_
      refine ldK hn₂ lkF ?_ rfl (by cases ef <;> rfl) (by cases ef <;> decide)
      refine spliced_nil ?_
      refine ⟨hu, ?_⟩
      refine call_mw (X₂.keeps k₃ _ _ hC) (k₃ _ _ hx₂) hu (one_size v) (fun h₅ t1 k₅ hx₅ z₅ => ?_)
      -- self.f = f
      have k5 : ∀ b o, b ≠ x → h₁.get? b = some o → h₅.get? b = some o := fun b o hb e => k₅ b o hb (k₃ b o (k₂ b o e))
      have hn₅ : h₅.Ns s.heap.objs.size (fun y => List.lookup y ([(PySem.Str.ofString "self", Value.ref x), (ef.fld, v)] : List (Str × Value)).reverse) := by
        obtain ⟨o1, es, ep, e1, r⟩ := hn
        exact ⟨o1, es, ep, k5 _ _ hxL e1, r⟩
      have X₅ : K.In h₅ := fun a o e => k5 a o (fun z => by rw [z, hnx] at e; cases e) (X₁ a o e)
      refine wpAt_of_wpAny ?_
      refine wpAny_execs_cons (plainObj_wpAny_Assign_Attribute ?_)
      refine ldK hn₅ lkF ?_ rfl (by cases ef <;> rfl) (by cases ef <;> decide)
      refine ldK hn₅ lkS ?_ rfl (by cases ef <;> rfl) (by decide)
      refine set_plain X₅ (ox := excO C t1) (od := none) ⟨hx₅, rfl, rfl, trivial⟩ T.sa ?_
      refine exc_osa X₅ hx₅ hcl (show refsVE (.ref C :: bm) = true from hbm) rfl T.noN (fun h₆ tk₆ dx k₆ dn dne hx₆ hn₆ => ?_)
      show wpAny _ _ (execs _ _) _ _ _
      refine wpAny_execs_nil (hq h₆ tk₆ dx t1 ⟨fun b o hb e => k₆ b o hb (k5 b o hb (k b o e)), hx₆, ?_, dne, hn₆⟩)
      have z3 : h₂.objs.size ≤ (h₂.push (kxs_mw "ValueError.__init__" x)).objs.size := by rw [Heap.size_push]; exact Nat.le_succ _
      have z2 : s.heap.objs.size < h₂.objs.size := Heap.lt_size (k₂ _ _ hn.choose_spec.choose_spec.choose_spec.1)
      exact Nat.le_trans (Nat.le_of_lt z2) (Nat.le_trans z3 (Nat.le_trans z₅ dn))
  · cases ef <;> rfl
  · rfl
  · rfl
theorem err_made (T : Txt prog K mg ef C fI) {v : Value} (M : L2.Mod K mg s.heap) (hroom : A.depth + 1 < recursionLimit)
    (hq : ∀ h' tk e d, OwnMade ef s.heap h' e C d v → R (.ok (.ret (.ref e))) { s with heap := h', toks := tk }) :
    codeAny (model prog w) A (.call (.ref C) ⟨[v], []⟩) R s := by
  obtain ⟨nm, q, N, bs, bm, sn, sub, ab, col, dd, k0, k1, k2, k3, k5, hC, hbm, hal⟩ := T.cls
  have X := M.kin
  obtain ⟨hp, g, dr, tk, os⟩ := s
  have k : ∀ b o, hp.get? b = some o → ((hp.push (kdv_tup [v])).push (excO C hp.objs.size)).get? b = some o := fun b o e => Heap.get?_push_of_some _ (Heap.get?_push_of_some _ e)
  have hget : ((hp.push (kdv_tup [v])).push (excO C hp.objs.size)).get? (hp.objs.size + 1) = some (excO C hp.objs.size) := by heap_get
  have hnx : K.lookup (hp.objs.size + 1) = none := by
    cases e : K.lookup (hp.objs.size + 1) with
    | none => rfl
    | some o =>
      have z : hp.get? (hp.objs.size + 1) = some o := X _ _ e
      exact absurd (Nat.lt_of_succ_lt (Heap.lt_size z)) (Nat.lt_irrefl _)
  have M' : L2.Mod K mg ((hp.push (kdv_tup [v])).push (excO C hp.objs.size)) := by
    obtain ⟨mb, hb1, hb2⟩ := M.blt
    exact ⟨X.keeps k, M.glob.keeps k, ⟨mb, hb1.keeps k, hb2⟩, M.nolimit.keeps k⟩
  refine call_own PySem.F.excBase_ValueError (fun X => refsVE_contains X bm hbm) (X _ _ hC) (looks_findIn X T.iC) (fun self => bind_fn X self T.tC) (one_size v) ?_
  refine err_init (s := ⟨(hp.push (kdv_tup [v])).push (excO C hp.objs.size), g, dr, tk, os⟩) T M' hget hnx ?_ fun h' tk' dx t1 ⟨k', hx, dn, dne, hns⟩ => ?_
  · show A.depth + 1 < recursionLimit
    exact hroom
  · have old : ∀ b o, hp.get? b = some o → h'.get? b = some o := fun b o e => k' b o (Nat.ne_of_lt (Nat.lt_succ_of_lt (Heap.lt_size e))) (k b o e)
    have z : hp.objs.size + 1 + 1 ≤ dx := by
      first
        | (simpa only [Heap.size_push] using dn)
        | exact dn
        | (have q := dn; rw [Heap.size_push, Heap.size_push] at q; exact q)
    exact ⟨rfl, hq h' tk' (hp.objs.size + 1) dx ⟨old, Nat.le_succ _, ⟨_, _, hx, rfl, rfl, rfl, rfl⟩, Nat.le_trans (Nat.le_trans (Nat.le_succ _) (Nat.le_succ _)) z, dne, hns⟩⟩
end
end ErrX
namespace TD
open PySem PySem.Spec PyProof.Rows L2
open ErrX (EF)
theorem relO_err {v : V} {v' : Value} {g : Str} (r : RelV v v') (f : Str) : RelO (List.lookup f [(g, v)]) (if f = g then some v' else none) := by
  by_cases hw : f = g
  · subst hw
    rw [if_pos rfl]
    have q : List.lookup f [(f, v)] = some v := by simp [List.lookup]
    rw [q]
    exact r
  · rw [if_neg hw]
    have qw : (f == g) = false := by simpa using hw
    have q2 : List.lookup f [(g, v)] = none := by simp [List.lookup, qw]
    rw [q2]
    trivial
section
variable {X : Cx} {W : WX} {ef : EF} {C fI : Addr} {k : Nat}
/-- Err(e) -/
def tMkErr (C : Addr) (f : Str) (ta : TA) : L2.St → Hp → XK → Prop := fun σ H Q => ta σ H fun vs H1 => ∃ v, vs = [v] ∧ ∀ d, H1 d = none → Q (.ref C) (some d) (upd H1 d (.xd [(f, v)]))
theorem pmk_err {a : Expr} {ta : TA} {x : Str} {p pos : Pos} (T : ErrX.Txt X.prog X.K X.mg ef C fI) (hr : Room k X.A) (hr1 : 1 ≤ k) (ha : PA X [a] ta) (hx : x = ef.cls) (hg : Gl X x := by rfl)
    (he : starEach (a :: []) X.env = (false, eval a X.env) :: starEach [] X.env := by rfl) (hpl : (backTo pos (starEach [] X.env)).any (·.1) = false := by rfl) :
    PMk X (.Call (.Name x p) [a] [] pos) (tMkErr C ef.fld ta) := by
  subst hx
  intro pins s σ H Q I h
  refine wpAny_Call_Name_kw (ld_glob I hg T.gC ?_ (by cases ef <;> decide))
  refine PySem.W.callWith_K (h₀ := X.base) I.ok.mod.kin T.kC (thn (ha.run pos pins s σ H _ I h) fun us s1 hh => ?_) he hpl
  obtain ⟨vs, H1, I1, r1, v, ev, q1⟩ := hh
  subst ev
  refine ⟨I1.kIn, ?_⟩
  cases r1 with
  | cons rv rn =>
    rename_i v' us'
    cases rn
    show wpAny _ _ (call (.ref C) [v']) _ _ _
    have hM : Mod X.K X.mg s1.heap := by
      obtain ⟨mb, hb1, hb2⟩ := I1.ok.mod.blt
      exact ⟨I1.kIn, I1.ok.mod.glob.keeps I1.bk, ⟨mb, hb1.keeps I1.bk, hb2⟩, I1.nolimit⟩
    obtain ⟨hp, g, dr, tk, os⟩ := s1
    refine wpAny_call (ErrX.err_made T hM (by have := hr.dp; omega) fun h' tk' e d M => ?_)
    show MkP X pins σ Q (.ref e) ⟨h', g, dr, tk', os⟩
    obtain ⟨oe, fv, hoe, hc, hd, hdat, h1⟩ := M.obj
    have hns := M.ns
    obtain ⟨G', g1, g2⟩ := restrict h' fun b => decide (b ≠ e)
    have gk : ∀ b, b ≠ e → G'.get? b = h'.get? b := fun b hb => g1 b (decide_eq_true hb)
    have ge : G'.get? e = none := g2 e (by simp)
    have old : ∀ b o, hp.get? b = some o → G'.get? b = some o := fun b o q => (gk b (Nat.ne_of_lt (Nat.lt_of_lt_of_le (Heap.lt_size q) M.new))).trans (M.keep b o q)
    have ob : ObjOk X.prog X.w (upd H1 d (.xd [(ef.fld, v)])) G' d (.xd [(ef.fld, v)]) :=
      ⟨_, hns.at (fun o q => (gk d M.dne).trans q), fun f => relO_err rv f⟩
    have J : Inv X pins σ (upd H1 d (.xd [(ef.fld, v)])) ⟨G', g, dr, tk', os⟩ := I1.laid (t' := tk') old M.dbig ob
    refine ⟨e, oe, fv, ⟨G', g, dr, tk', os⟩, _, .ref C, some d, rfl, J, fun b o q => ?_, ge, hoe, ⟨hc, hd⟩, hdat, h1, ?_, rfl, I1.bare, raises_own T.exC T.tyC, q1 d (I1.hok.fresh M.dbig)⟩
    · by_cases hb : b = e
      · have q' : G'.get? b = some o := q
        rw [hb, ge] at q'; cases q'
      · exact (gk b hb).symm.trans q
    · rw [upd_ne (Ne.symm M.dne)]
      exact I1.hok.fresh M.new
def tRaiseErr (C : Addr) (f : Str) (W : WX) (ta : TA) : TS := fun _ σ H => tMkErr C f ta σ H fun cls d H' => W cls d σ H'
/-- raise Err(e) -/
def dRaise (C : Addr) (f : Str) (a : DE) : DS := fun D ρ G => a ρ (D.xx ρ) G fun z G1 => D.xx ρ C [(f, z)] G1
theorem pds_raise {a : Expr} {x : Str} {da : DE} {p pos pos2 : Pos} (hc : X.calm = true) (T : ErrX.Txt X.prog X.K X.mg ef C fI) (hr : Room k X.A) (hr1 : 1 ≤ k) (tk : Takes X W) (ha : PD X W a da) (hx : x = ef.cls) (hg : Gl X x := by rfl)
    (he : starEach (a :: []) X.env = (false, eval a X.env) :: starEach [] X.env := by rfl) (hpl : (backTo pos (starEach [] X.env)).any (·.1) = false := by rfl) :
    PDS X W (.Raise (some (.Call (.Name x p) [a] [] pos)) none pos2) (dRaise C ef.fld da) :=
  PS.imp (ps_raise hc tk (pmk_err T hr hr1 (pa_cons ha pa_nil he) hx hg he hpl)) fun E σ H ⟨Z, ρ, G, Dd, sr, hr, h, ok⟩ =>
    ⟨Z, ρ, Dd.xx ρ, G, _, sr, hr, h, fun z v G1 H1 f1 r1 d1 q1 => ⟨v, rfl, fun d hd =>
      ok.xx ρ σ G H (Fr.refl G H) sr C [(ef.fld, z)] d [(ef.fld, v)] G1 _ (f1.trans (Fr.new hd)) (r1.new hd) upd_same (r1.free hd) (.cons ⟨rfl, d1.mono (Fr.new hd)⟩ .nil) q1⟩, ok.xo sr⟩
end
end TD
/-! # TD, 9: a lambda handed to a def that calls it in a try -/
namespace TD
open PySem PySem.Spec PyProof.Rows L2
open LamX (CodeO TabB LamS lamEnv lamCx)
section
variable {X : Cx} {pins : List (Addr × Obj)} {σ : L2.St} {H : Hp} {s : Shared}
/-- the abstract heap behind the making of a lambda: as it was, or the table one code object longer -/
def Grown (H H1 : Hp) (P c' : Addr) (q : Str) (ps : Array Value) : Prop :=
  H1 = H ∨ (H c' = none ∧ ∃ l k : Nat, H1 = upd (upd H P (.tbl (ps ++ #[rawInt l, rawInt k, .ref c']))) c' (CodeO c' q))
theorem lam_makeP {c P : Addr} {ps : Array Value} {params : Arguments} {body : Expr} {scope : Scope} {pos : Pos} {E : Value → Shared → Prop} {Q : Value → Shared → Prop} (I : Inv X pins σ H s) (TB : TabB X.base X.mg c P) (hcode : X.env.code = .ref c)
    (hP : H P = some (.tbl ps)) (ht : TriplesOk ps.toList) (ha : ∀ (pos : Pos) (cv : Value), codeAmong pos ps.toList = some cv → ∃ c, cv = .ref c ∧ H c = some (CodeO c (X.env.qual ++ "<lambda>")))
    (hdef : defaultsOf params X.env = ([], [])) (hfree : ∀ y ∈ scope.names, y.2 = .free → ∃ c, X.env.cells.lookup y.1 = some c)
    (h : ∀ (f c' : Addr) (pm ctv : Value) (H1 : Hp) (s' : Shared), Grown H H1 P c' (X.env.qual ++ "<lambda>") ps → Inv X pins σ H1 s' →
      s'.heap.get? f = some (PySem.W.kla_obj "<lambda>" (X.env.qual ++ "<lambda>") params body scope (cloFrom X.env.cells scope.names []) pm c' ctv) → H1 f = none → f ∉ frs X.stack → H1 c' = some (CodeO c' (X.env.qual ++ "<lambda>")) → Q (.ref f) s') :
    wpAny (model X.prog X.w) X.A (eval (.Lambda params body scope pos) X.env) Q E s := by
  have nf : ∀ f, s.heap.objs.size ≤ f → f ∉ frs X.stack := fun f hf z => by
    rcases List.mem_cons.mp (I.stkSub _ z) with e | e
    · have h1 := I.lt
      rw [← e] at h1
      exact absurd (Nat.lt_of_lt_of_le h1 hf) (Nat.lt_irrefl _)
    · exact I.nofs hf e
  have hPs : s.heap.get? P = some { cls := .none, data := .fields ps } := I.hok P _ hP
  refine PySem.W.kla_eval hdef ?_
  cases hc : codeAmong pos ps.toList with
  | some cv =>
    obtain ⟨c', e, hco⟩ := ha pos cv hc
    subst e
    refine PySem.W.kla_makeFunctionHit (mg := X.mg) (c := c) (P := P) (ps := ps) (closure_ok hfree) I.ok.glob (I.mod.glob.keeps I.bk) hcode (TB.code.keeps I.bk) hPs ht hc (TB.bm.keeps I.bk) fun ctv h' tk hx hsz => ?_
    have J : Inv X pins σ H { s with heap := h'.push (PySem.W.kla_obj "<lambda>" (X.env.qual ++ "<lambda>") params body scope (cloFrom X.env.cells scope.names []) ((X.mg "__name__").getD .none) c' ctv), toks := tk } :=
      I.kept fun b o e => Heap.get?_push_of_some _ (hx b o e)
    exact h h'.objs.size c' _ ctv H _ (.inl rfl) J (Heap.get?_push_size _ rfl) (I.hok.fresh hsz) (nf _ hsz) hco
  | none =>
    refine PySem.W.kla_makeFunction (mg := X.mg) (c := c) (P := P) (ps := ps) (closure_ok hfree) I.ok.glob (I.mod.glob.keeps I.bk) hcode (TB.code.keeps I.bk) hPs ht hc TB.gP (TB.bm.keeps I.bk) fun c' ctv h' tk hx hge hlt hrec htb => ?_
    obtain ⟨c2, oc, vs, t, e2, hoc, hd, hv⟩ := hrec
    cases e2
    have nC : H c' = none := I.hok.fresh hge
    have J := LamX.inv_table (t' := tk) (more := #[rawInt pos.line, rawInt pos.col, .ref c']) (h' := h'.push (PySem.W.kla_obj "<lambda>" (X.env.qual ++ "<lambda>") params body scope (cloFrom X.env.cells scope.names []) ((X.mg "__name__").getD .none) c' ctv))
      I hP (fun b o hb e => Heap.get?_push_of_some _ (hx b o hb e)) (Heap.get?_push_of_some _ htb) hge ⟨oc, vs, t, Heap.get?_push_of_some _ hoc, hd, hv⟩
    have big : s.heap.objs.size ≤ h'.objs.size := Nat.le_trans hge (Nat.le_of_lt hlt)
    refine h h'.objs.size c' _ ctv _ _ (.inr ⟨nC, _, _, rfl⟩) J (Heap.get?_push_size _ rfl) ?_ (nf _ big) upd_same
    rw [upd_ne (Nat.ne_of_gt hlt), upd_ne (Nat.ne_of_gt (Nat.lt_of_lt_of_le (Heap.lt_size hPs) big))]
    exact I.hok.fresh big
end
/-- nothing told is lost when a table grows -/
theorem grown_fr {G : GH} {H H1 : Hp} {P c' : Addr} {q : Str} {ps : Array Value} (g : Grown H H1 P c' q ps) (hP : H P = some (.tbl ps)) (hG : G P ≠ none) : Fr G H G H1 := by
  rcases g with e | ⟨nC, l, k, e⟩
  · rw [e]; exact Fr.refl _ _
  · intro b o hb hn
    refine ⟨?_, hn⟩
    rw [e, upd_ne (ne_of_none hb nC), upd_ne (fun z => hG (by rw [← z]; exact hn))]
    exact hb
theorem grown_hr {K : PySem.W.Frag} {Z : Addr → Prop} {G : GH} {H H1 : Hp} {P c' : Addr} {q : Str} {ps : Array Value} (g : Grown H H1 P c' q ps) (r : HR K Z G H) (hP : H P = some (.tbl ps)) (hG : G P = some (.tab q)) : HR K Z G H1 := by
  have f := grown_fr (G := G) g hP (by rw [hG]; exact fun z => nomatch z)
  rcases g with e | ⟨nC, l, k, e⟩
  · rw [e]; exact r
  · have gc : G c' = none := r.free nC
    refine ⟨fun a m hm => ?_, fun a z => hid_mono f (r.hid a z)⟩
    by_cases ha : a = P
    · rw [ha, hG] at hm
      cases hm
      obtain ⟨ps', h1, h2, h3⟩ := r.at_ P _ hG
      rw [hP] at h1
      cases h1
      have eL : (ps ++ #[rawInt l, rawInt k, .ref c']).toList = ps.toList ++ [rawInt l, rawInt k, .ref c'] := by simp
      rw [ha]
      refine ⟨_, by rw [e, upd_ne (ne_of_none hP nC), upd_same], by rw [eL]; exact PySem.TriplesOk_snoc _ _ _ _ h2, fun pos cv hc => ?_⟩
      rw [eL] at hc
      rcases LamX.among_app (pos := ⟨l, k, l, k⟩) _ h2 hc with z | z
      · obtain ⟨c0, e1, e2, e3⟩ := h3 pos cv z
        exact ⟨c0, e1, (f _ _ e2 e3).1, e3⟩
      · exact ⟨c', z, by rw [e]; exact upd_same, gc⟩
    · have ho := r.at_ a m hm
      refine ho.keep f ?_
      rw [e, upd_ne, upd_ne ha]
      intro z
      exact ho.some (by rw [z]; exact nC)

/-! ### the call x(lambda: body) -/
def tLamP (P : Addr) (q : Str) (TT : (XK → Hp → VK → Prop) → Hp → VK → Prop) (t : XK → TE) : TE := fun σ H Q =>
  ∃ ps : Array Value, H P = some (.tbl ps) ∧ TriplesOk ps.toList ∧ (∀ (pos : Pos) (cv : Value), codeAmong pos ps.toList = some cv → ∃ c, cv = .ref c ∧ H c = some (CodeO c q)) ∧ ∀ c' H1, Grown H H1 P c' q ps → TT (fun E H' Q' => t E σ H' Q') H1 Q
section
variable {X : Cx}
theorem pe_lamP {TT : (XK → Hp → VK → Prop) → Hp → VK → Prop} {x a : Str} {g c P : Addr} {k : Nat} {pg : Arguments} {bg : List Stmt} {sg : Scope} {dV kV doc pm cdv ct oc : Value} {an od : Option Addr} {osl : Array (Option Value)} {Ng : List Str}
    {params : Arguments} {body : Expr} {scope : Scope} {t : XK → TE} {p lpos pos : Pos} (hg : Gl X x) (hm : X.mg x = some (.ref g)) (hk : PySem.W.keepIn X.K (.ref g) = true)
    (lk : X.K.lookup g = some ⟨oc, od, .func (PySem.W.fnOf x x pg bg sg dV kV doc pm an cdv ct), osl⟩) (hcg : PySem.W.codeIn X.K cdv x = true) (hb : L2.Binds X.K (PySem.W.fnOf x x pg bg sg dV kV doc pm an cdv ct) [a] []) (Sg : FnScope Ng [a] sg) (hNg : Ng[0]? = some a) (hva : Vis sg a)
    (hG : LamX.GivesTo X Ng x sg g cdv bg a (X.env.qual ++ "<lambda>") TT)
    (TB : TabB X.base X.mg c P) (hcode : X.env.code = .ref c) (hr : Room (k + 2) X.A) (L : LamS X.env.scope scope) (hdef : defaultsOf params X.env = ([], []))
    (hbind : ∀ (q : Str) (cl : List (Str × Addr)) (pm cv ctv : Value), bindArgs (PySem.W.kla_fn "<lambda>" q params body scope cl pm cv ctv) ⟨[], []⟩ = pure [])
    (hbody : ∀ (A : Around) (outer : List Env) (s : Shared) (H : Hp) (E : XK) (f c' : Addr), Room k (A.deeper (lamEnv X scope s.heap.objs.size f c')) → PE (lamCx X A outer s H E scope f c') body (t E))
    (hdb : (x == ("__debug__" : Str)) = false) (hd : (a == ("__debug__" : Str)) = false) (hcd : (a == ("__classdict__" : Str)) = false) :
    PE X (.Call (.Name x p) [.Lambda params body scope lpos] [] pos) (tLamP P (X.env.qual ++ "<lambda>") TT t) := ⟨fun pins s σ H Q I ⟨ps, hP, ht, ha, h⟩ => by
  refine wpAny_Call_Name_kw (ld_glob I hg hm (PySem.W.callWith_K (h₀ := X.base) I.ok.mod.kin hk ?_ (by rfl) (by rfl)) hdb)
  show wpAny _ _ (spliced ((false, eval (.Lambda params body scope lpos) X.env) :: backTo pos (starEach [] X.env))) _ _ s
  refine Calls.spliced_cons (lam_makeP I TB hcode hP ht ha hdef (L.has I.ok) fun f c' pm' ctv H1 s' gr I1 hf hfn hfr hco => Calls.spliced_nil ⟨I1.kIn, ?_⟩)
  refine wpAny_call (codeAny_mono (LamX.run_ofS (N := Ng) (ps := [a]) (us := [.ref f]) (vs := [.ref f]) (CX := C8.CX0) (E := C8.E0) (Q := Q) lk hcg Sg hr I1.env0 (hb s' [.ref f] I1.kIn rfl) (.cons rfl .nil) rfl fun hr' => ?_) fun r s2 hq => ?_)
  · obtain ⟨t', ht', hq'⟩ := hG f c' s' H1 Q (fun E H' Q' => t E σ H' Q') (fun W pn xe E p1 p2 tk hW => LamX.pe_act (i := 0) I1 L hf hfn hfr (hbind _ _ _ _ _) tk hW hr' (fun A outer s H hr2 => hbody A outer s H E f c' hr2) hNg hva hd hcd) hco (h c' H1 gr)
    exact ⟨t', ht'.nox, hq'⟩
  · cases r with
    | error e => exact (show False from hq).elim
    | ok fl => cases fl <;> first | exact I1.after hq | exact False.elim hq⟩
end

/-! ### the defs that call it -/
section
variable {X : Cx} {ef : ErrX.EF} {C fI : Addr}
/-- e.f, e the caught error -/
def tByErr (C : Addr) (f : Str) (a : Addr) (cls : Value) (d : Option Addr) (te : TE) : TE := fun σ H Q => te σ H fun x H1 => x = .ref a ∧ cls = .ref C ∧ ∃ (dd : Addr) (v : V), d = some dd ∧ H1 dd = some (.xd [(f, v)]) ∧ Q v H1
theorem pe_byErr {a : Addr} {oe : Obj} {cls : Value} {d : Option Addr} {pn : List (Addr × Obj)} {e : Expr} {te : TE} {f : Str} {pos : Pos} (T : ErrX.Txt X.prog X.K X.mg ef C fI) (ef_ : f = ef.fld) (hz : Zc cls d oe) (hf : ∃ vs, oe.data = .fields vs) (he : PE (X.suite a ((a, oe) :: pn)) e te)
    (hb : attributeBase e f X.env (eval e X.env) = eval e X.env := by rfl) :
    PE (X.suite a ((a, oe) :: pn)) (.Attribute e f pos) (tByErr C f a cls d te) := by
  subst ef_
  refine ⟨fun pins s σ H Q I h => attr_of hb (thn (he.run pins s σ H _ I h) fun u s1 hh => ?_)⟩
  obtain ⟨x, H1, I1, rx, ex, ec, dd, v, ed, ea, q⟩ := hh
  subst ex ec ed
  obtain rfl : u = Value.ref a := rx
  obtain ⟨ha, _⟩ := I1.pin (a, oe) (List.mem_append_left _ List.mem_cons_self)
  obtain ⟨vs, hd⟩ := hf
  obtain ⟨mA, hns, hr⟩ := (show ObjOk X.prog X.w H1 s1.heap dd (.xd [(ef.fld, v)]) from I1.hok dd _ ea)
  obtain ⟨od, ho, hl⟩ := lookIn_ns hns
  have l : List.lookup ef.fld [(ef.fld, v)] = some v := by simp [List.lookup]
  obtain ⟨u, hu, ru⟩ := RelO.some_of (v := v) (o := mA ef.fld) (by rw [← l]; exact hr ef.fld)
  have J : PySem.W.InstAt s1.heap a oe C (some od) := ⟨ha, hz.1, by unfold PySem.W.notCls; rw [hd] <;> rfl, by rw [hz.2]; exact ho⟩
  exact HandSPX.exc_get I1.kIn J T.ga T.gg T.exC (PySem.W.findObj_own T.hdC T.noN rfl (by rw [hl, hu])) (handed_of ru) ⟨v, H1, I1.tok _, ru, q⟩
theorem takes_len {X : Cx} {W : WX} (tk : Takes X W) : Takes X (fun c d σ H => σ.length = X.N.length → W c d σ H) := fun u s' ⟨a, B, sI, pins, σ, H, cls, d, e, I, nb, up, sky, na, os, ag, w⟩ =>
  tk u s' ⟨a, B, sI, pins, σ, H, cls, d, e, I, nb, up, sky, na, os, ag, w I.len⟩
theorem set_one {Ng : List Str} {σ : L2.St} {n : Str} {o : Option V} (l : σ.length = Ng.length) (h : Ng[1]? = some n) : (σ.set 1 o)[1]? = some o := by
  have : 1 < σ.length := by
    rw [l]
    exact (List.getElem?_eq_some_iff.mp h).1
  simp [this]
/-- try: call() / except X as e: return e.f / return "" -/
def TTa (C : Addr) (f : Str) : (XK → Hp → VK → Prop) → Hp → VK → Prop := fun tl H Q =>
  ∃ E : XK, tl E H (fun _ H' => Q (.str "") H') ∧ ∀ cls d H', E cls d H' → ∃ v dd, cls = .ref C ∧ d = some dd ∧ H' dd = some (.xd [(f, v)]) ∧ Q v H'
theorem gives_a {Ng : List Str} {x a e n q f : Str} {sg : Scope} {g : Addr} {cdg : Value} {j : Nat} {p1 p2 p3 p4 p5 p6 p7 p8 p9 p10 p11 : Pos} (T : ErrX.Txt X.prog X.K X.mg ef C fI) (ef_ : f = ef.fld) (hge : sg.names.lookup e = some .globalImplicit) (hme : e = ef.cls)
    (hnd : Ng.Nodup) (hN1 : Ng[1]? = some n) (hn : sg.names.lookup n = some .local) (hdn : (n == ("__debug__" : Str)) = false) (hcn : (n == ("__classdict__" : Str)) = false) (h0 : ∀ f : Addr, L2.start Ng [V.ref f] = [some (V.ref f), none])
    (hb : ∀ env : Env, attributeBase (.Name n p5) f env (eval (.Name n p5) env) = eval (.Name n p5) env) (hsw : ∀ env : Env, swapsWith (.Call (.Name a p1) [] [] p2) none p3.line env = pure false) :
    LamX.GivesTo X Ng x sg g cdg [.Try [.Expr (.Call (.Name a p1) [] [] p2) p3] [.ExceptHandler (some (.Name e p4)) (some n) [.Return (some (.Attribute (.Name n p5) f p6)) p7] p8] [] [] p9, .Return (some (.Constant (.str "") j p10)) p11] a q (TTa C f) := by
  intro fl c' s H Q tl act hc h
  have hgl : Gl (cxOf C8.CX0 X.prog X.w X.K X.mg X.base Ng x sg g cdg X.A X.stack s H C8.E0).nox e := hge
  have hde : (e == ("__debug__" : Str)) = false := by subst hme; cases ef <;> decide
  obtain ⟨E, h1, h3⟩ := h
  refine ⟨_, pss_cons (ps_try_as (X := (cxOf C8.CX0 X.prog X.w X.K X.mg X.base Ng x sg g cdg X.A X.stack s H C8.E0).nox) (c := .ref C) (i := 1)
      (tb := fun W D σ H => ∃ Ech : XK, (∀ cls d σ' H', σ'.length = Ng.length → Ech cls d H' → W cls d σ' H') ∧ σ[0]? = some (some (.ref fl)) ∧ H c' = some (CodeO c' q) ∧ tl Ech H fun _ H' => D.nx σ H')
      (ts := fun a cls d => tRet (tByErr C f a cls d (tVar 1)))
      rfl rfl hnd hN1 hn ⟨hgl, hde, .inl (hme ▸ T.gC)⟩ LamX.takes0 (fun W pn xe tk _ => ⟨fun pins s' σ H' D I ⟨Ech, hW, e1, e2, e3⟩ => ?_⟩)
      (fun a oe cls d pn hz hf => pss_one (ps_ret (pe_byErr (X := (cxOf C8.CX0 X.prog X.w X.K X.mg X.base Ng x sg g cdg X.A X.stack s H C8.E0).nox) T ef_ hz hf (pe_var hN1 (.inl hn) hdn hcn) (hb _))))) (pss_one (ps_ret pe_str)), ?_⟩
  · exact (pss_one (ps_expr (pos := p3) (act _ pn xe Ech p1 p2 (takes_len tk) fun cls d σ' H' z l => hW cls d σ' H' l z) (hsw _))).run pins s' σ H' D I ⟨e1, e2, e3⟩
  · rw [h0]
    refine ⟨fun cls d H' => E cls d H', fun cls d σ' H' hlen hE => ?_, rfl, hc, ?_⟩
    · obtain ⟨v, dd, rfl, rfl, hd, hQ⟩ := h3 cls d H' hE
      refine ⟨true, T.te, fun _ a0 ha0 => ?_, fun z => Bool.noConfusion z⟩
      exact ⟨_, set_one hlen hN1, rfl, rfl, dd, v, rfl, hd, hQ⟩
    · exact h1
/-- try: return (w1, call()) / except X as e: return (w2, e.f) -/
def TTb (C : Addr) (f w1 w2 : Str) : (XK → Hp → VK → Prop) → Hp → VK → Prop := fun tl H Q =>
  ∃ E : XK, tl E H (fun v H' => [V.str w1, v].length ≤ sizeLine ∧ ∀ p, H' p = none → Q (.ref p) (upd H' p (.tup [.str w1, v]))) ∧ ∀ cls d H', E cls d H' → ∃ v dd, cls = .ref C ∧ d = some dd ∧ H' dd = some (.xd [(f, v)]) ∧ ∀ p, H' p = none → Q (.ref p) (upd H' p (.tup [.str w2, v]))
theorem gives_b {Ng : List Str} {x a e n q f w1 w2 : Str} {sg : Scope} {g : Addr} {cdg : Value} {j j2 k1 k2 : Nat} {p1 p2 p3 p4 p5 p6 p7 p8 p9 p10 p11 p12 p13 : Pos} (T : ErrX.Txt X.prog X.K X.mg ef C fI) (ef_ : f = ef.fld) (hge : sg.names.lookup e = some .globalImplicit) (hme : e = ef.cls)
    (hnd : Ng.Nodup) (hN1 : Ng[1]? = some n) (hn : sg.names.lookup n = some .local) (hdn : (n == ("__debug__" : Str)) = false) (hcn : (n == ("__classdict__" : Str)) = false) (h0 : ∀ f : Addr, L2.start Ng [V.ref f] = [some (V.ref f), none])
    (hb : ∀ env : Env, attributeBase (.Name n p5) f env (eval (.Name n p5) env) = eval (.Name n p5) env)
    (hs1 : ∀ env : Env, starEach [.Constant (.str w1) j p10, .Call (.Name a p1) [] [] p2] env = (false, eval (.Constant (.str w1) j p10) env) :: starEach [.Call (.Name a p1) [] [] p2] env) (hs2 : ∀ env : Env, starEach [.Call (.Name a p1) [] [] p2] env = (false, eval (.Call (.Name a p1) [] [] p2) env) :: starEach [] env)
    (hs3 : ∀ env : Env, starEach [.Constant (.str w2) j2 p11, .Attribute (.Name n p5) f p6] env = (false, eval (.Constant (.str w2) j2 p11) env) :: starEach [.Attribute (.Name n p5) f p6] env) (hs4 : ∀ env : Env, starEach [.Attribute (.Name n p5) f p6] env = (false, eval (.Attribute (.Name n p5) f p6) env) :: starEach [] env) :
    LamX.GivesTo X Ng x sg g cdg [.Try [.Return (some (.Tuple [.Constant (.str w1) j p10, .Call (.Name a p1) [] [] p2] k1 p12)) p3] [.ExceptHandler (some (.Name e p4)) (some n) [.Return (some (.Tuple [.Constant (.str w2) j2 p11, .Attribute (.Name n p5) f p6] k2 p13)) p7] p8] [] [] p9] a q (TTb C f w1 w2) := by
  intro fl c' s H Q tl act hc h
  have hgl : Gl (cxOf C8.CX0 X.prog X.w X.K X.mg X.base Ng x sg g cdg X.A X.stack s H C8.E0).nox e := hge
  have hde : (e == ("__debug__" : Str)) = false := by subst hme; cases ef <;> decide
  obtain ⟨E, h1, h3⟩ := h
  have two : (2 : Nat) ≤ sizeLine := by rw [sizeLine_eq]; omega
  refine ⟨_, pss_one (ps_try_as (X := (cxOf C8.CX0 X.prog X.w X.K X.mg X.base Ng x sg g cdg X.A X.stack s H C8.E0).nox) (c := .ref C) (i := 1)
      (tb := fun W D σ H => ∃ Ech : XK, (∀ cls d σ' H', σ'.length = Ng.length → Ech cls d H' → W cls d σ' H') ∧ σ[0]? = some (some (.ref fl)) ∧ H c' = some (CodeO c' q) ∧ tl Ech H fun v H' => [V.str w1, v].length ≤ sizeLine ∧ ∀ p, H' p = none → D.rt (.ref p) (upd H' p (.tup [.str w1, v])))
      (ts := fun a cls d => tRet (tTup (tCons (tC (.str w2)) (tCons (tByErr C f a cls d (tVar 1)) tNil))))
      rfl rfl hnd hN1 hn ⟨hgl, hde, .inl (hme ▸ T.gC)⟩ LamX.takes0 (fun W pn xe tk _ => ⟨fun pins s' σ H' D I ⟨Ech, hW, e1, e2, e3⟩ => ?_⟩)
      (fun a oe cls d pn hz hf => pss_one (ps_ret (pe_tup (pa_cons pe_str (pa_cons (pe_byErr (X := (cxOf C8.CX0 X.prog X.w X.K X.mg X.base Ng x sg g cdg X.A X.stack s H C8.E0).nox) T ef_ hz hf (pe_var hN1 (.inl hn) hdn hcn) (hb _)) pa_nil (hs4 _)) (hs3 _)))))), ?_⟩
  · refine (pss_one (ps_ret (pos := p3) (pe_tup (pa_cons pe_str (pa_cons (act _ pn xe Ech p1 p2 (takes_len tk) fun cls d σ' H' z l => hW cls d σ' H' l z) pa_nil (hs2 _)) (hs1 _))))).run pins s' σ H' D I ?_
    exact ⟨e1, e2, e3⟩
  · rw [h0]
    refine ⟨fun cls d H' => E cls d H', fun cls d σ' H' hlen hE => ?_, rfl, hc, ?_⟩
    · obtain ⟨v, dd, rfl, rfl, hd, hQ⟩ := h3 cls d H' hE
      refine ⟨true, T.te, fun _ a0 ha0 => ?_, fun z => Bool.noConfusion z⟩
      exact ⟨_, set_one hlen hN1, rfl, rfl, dd, v, rfl, hd, two, hQ⟩
    · exact h1
end

/-! ### at the level of data -/
/-- _law_refused(lambda: body): what is told if nothing is raised; the field of what is raised -/
def dLamA (C P : Addr) (q f : Str) (b : DE) : DE := fun ρ _ G Q => G P = some (.tab q) ∧ b ρ (fun C' fs G' => ∃ z, C' = C ∧ fs = [(f, z)] ∧ Q z G') G fun _ G' => Q (.str "") G'
def dLamB (C P : Addr) (q f w1 w2 : Str) (b : DE) : DE := fun ρ _ G Q => G P = some (.tab q) ∧ b ρ (fun C' fs G' => ∃ z, C' = C ∧ fs = [(f, z)] ∧ Q (.tup [.str w2, z]) G') G fun z G' => Q (.tup [.str w1, z]) G'
section
variable {K : PySem.W.Frag} {W : WX} {C P : Addr} {q f w1 w2 : Str} {b : DE}
theorem pair_one {K : PySem.W.Frag} {Z : Addr → Prop} {G : GH} {H : Hp} {f : Str} {z : D} {fv : List (Str × V)} (p : PairD K Z G H [(f, z)] fv) : ∃ v, fv = [(f, v)] ∧ DV K Z G H z v := by
  cases p with
  | cons a r =>
    rename_i q qs
    cases r
    obtain ⟨n, v⟩ := q
    obtain ⟨e, d⟩ := a
    have e : f = n := e
    subst e
    exact ⟨v, rfl, d⟩
theorem low_lamA : ∀ σ H Q, lowE K W (dLamA C P q f b) σ H Q → tLamP P q (TTa C f) (fun E => lowE K (fun c d _ H' => E c d H') b) σ H Q := fun σ H Q ⟨Z, ρ, x, G, Qd, sr, hr, ⟨hG, h⟩, c, xo⟩ => by
  obtain ⟨ps, hP, ht, ha⟩ := hr.at_ P _ hG
  refine ⟨ps, hP, ht, fun pos cv hc => let ⟨c, e1, e2, _⟩ := ha pos cv hc; ⟨c, e1, e2⟩, fun c' H1 gr => ?_⟩
  have f1 := grown_fr (G := G) gr hP (by rw [hG]; exact fun z => nomatch z)
  refine ⟨fun cls d H' => ∃ v dd, cls = .ref C ∧ d = some dd ∧ H' dd = some (.xd [(f, v)]) ∧ Q v H', ⟨Z, ρ, _, G, _, sr.mono f1, grown_hr gr hr hP hG, h, fun z v G' H' f2 r2 d2 q2 => c _ _ G' H' (f1.trans f2) r2 (.str _) q2, ?_⟩, fun cls d H' h => h⟩
  intro C' fs d fv G' H' f2 r2 e n p ⟨z, eC, ef, q⟩
  subst eC ef
  obtain ⟨v, rfl, dv⟩ := pair_one p
  exact ⟨v, d, rfl, rfl, e, c _ _ G' H' (f1.trans f2) r2 dv q⟩
theorem low_lamB : ∀ σ H Q, lowE K W (dLamB C P q f w1 w2 b) σ H Q → tLamP P q (TTb C f w1 w2) (fun E => lowE K (fun c d _ H' => E c d H') b) σ H Q := fun σ H Q ⟨Z, ρ, x, G, Qd, sr, hr, ⟨hG, h⟩, c, xo⟩ => by
  obtain ⟨ps, hP, ht, ha⟩ := hr.at_ P _ hG
  refine ⟨ps, hP, ht, fun pos cv hc => let ⟨c, e1, e2, _⟩ := ha pos cv hc; ⟨c, e1, e2⟩, fun c' H1 gr => ?_⟩
  have f1 := grown_fr (G := G) gr hP (by rw [hG]; exact fun z => nomatch z)
  have two : ∀ a b : V, [a, b].length ≤ sizeLine := fun a b => by show 2 ≤ sizeLine; rw [sizeLine_eq]; omega
  refine ⟨fun cls d H' => ∃ v dd, cls = .ref C ∧ d = some dd ∧ H' dd = some (.xd [(f, v)]) ∧ ∀ p, H' p = none → Q (.ref p) (upd H' p (.tup [.str w2, v])), ⟨Z, ρ, _, G, _, sr.mono f1, grown_hr gr hr hP hG, h, fun z v G' H' f2 r2 d2 q2 => ⟨two _ _, fun p hp => ?_⟩, ?_⟩, fun cls d H' h => h⟩
  · exact Ret.tup (Ret.mono (f1.trans f2) c) r2 hp (.cons (.str _) (.cons d2 .nil)) (two _ _) q2
  · intro C' fs d fv G' H' f2 r2 e n p ⟨z, eC, ef, q⟩
    subst eC ef
    obtain ⟨v, rfl, dv⟩ := pair_one p
    exact ⟨v, d, rfl, rfl, e, fun p hp => Ret.tup (Ret.mono (f1.trans f2) c) r2 hp (.cons (.str _) (.cons dv .nil)) (two _ _) q⟩
end
section
variable {X : Cx} {W : WX}
theorem pd_lam {TT : (XK → Hp → VK → Prop) → Hp → VK → Prop} {b d : DE} {x a : Str} {g c P : Addr} {k : Nat} {pg : Arguments} {bg : List Stmt} {sg : Scope} {dV kV doc pm cdv ct oc : Value} {an od : Option Addr} {osl : Array (Option Value)} {Ng : List Str}
    {params : Arguments} {body : Expr} {scope : Scope} {p lpos pos : Pos} (hl : ∀ σ H Q, lowE X.K W d σ H Q → tLamP P (X.env.qual ++ "<lambda>") TT (fun E => lowE X.K (fun c d _ H' => E c d H') b) σ H Q) (hg : Gl X x) (hm : X.mg x = some (.ref g)) (hk : PySem.W.keepIn X.K (.ref g) = true)
    (lk : X.K.lookup g = some ⟨oc, od, .func (PySem.W.fnOf x x pg bg sg dV kV doc pm an cdv ct), osl⟩) (hcg : PySem.W.codeIn X.K cdv x = true) (hb : L2.Binds X.K (PySem.W.fnOf x x pg bg sg dV kV doc pm an cdv ct) [a] []) (Sg : FnScope Ng [a] sg) (hNg : Ng[0]? = some a) (hva : Vis sg a)
    (hG : LamX.GivesTo X Ng x sg g cdv bg a (X.env.qual ++ "<lambda>") TT)
    (TB : TabB X.base X.mg c P) (hcode : X.env.code = .ref c) (hr : Room (k + 2) X.A) (L : LamS X.env.scope scope) (hdef : defaultsOf params X.env = ([], []))
    (hbind : ∀ (q : Str) (cl : List (Str × Addr)) (pm cv ctv : Value), bindArgs (PySem.W.kla_fn "<lambda>" q params body scope cl pm cv ctv) ⟨[], []⟩ = pure [])
    (hbody : ∀ (A : Around) (outer : List Env) (s : Shared) (H : Hp) (E : XK) (f c' : Addr), Room k (A.deeper (lamEnv X scope s.heap.objs.size f c')) → Takes (lamCx X A outer s H E scope f c') (fun c d _ H' => E c d H') → PD (lamCx X A outer s H E scope f c') (fun c d _ H' => E c d H') body b)
    (hdb : (x == ("__debug__" : Str)) = false) (hd : (a == ("__debug__" : Str)) = false) (hcd : (a == ("__classdict__" : Str)) = false) :
    PD X W (.Call (.Name x p) [.Lambda params body scope lpos] [] pos) d :=
  PE.imp (pe_lamP hg hm hk lk hcg hb Sg hNg hva hG TB hcode hr L hdef hbind (fun A outer s H E f c' hr' => hbody A outer s H E f c' hr' (takes_of rfl rfl rfl rfl)) hdb hd hcd) hl
end
end TD
/-! # TD, 10: min and max of data, item assignment, append, dicts, keywords, is True, unary minus -/
namespace TD
open PySem PySem.Spec PyProof.Rows L2

/-! ### min and max of nested data -/
def dltP (a b : D) : Bool := PySem.W.dataLt (toP a) (toP b)
def minF (x : D) (xs : List D) : D := xs.foldl (fun a y => if dltP y a then y else a) x
def maxF (x : D) (xs : List D) : D := xs.foldl (fun a y => if dltP a y then y else a) x
section
open PySem.W
variable {prog : Program} {w : World} {A : Around} {E : Value → Shared → Prop} {s : Shared}
theorem min_idx {l : Addr} {vs : Array Value} {x : PyData} {xs : List PyData} {as : List Addr} {Q : Value → Shared → Prop} (hh : A.handled = none) (hl : s.heap.IsList l vs) (hr : ReadsAll s.heap vs.toList (x :: xs) as) (ha : AlikeAll (x :: xs)) (hu : A.units + 1 + PyData.depthAll (x :: xs) < cLine)
    (h : ∀ v h' tk, vs[argBest (fun i j => dataLt ((x :: xs).getD i .none) ((x :: xs).getD j .none)) xs.length]? = some v → (∀ b o, s.heap.get? b = some o → h'.get? b = some o) → Q v { s with heap := h', toks := tk }) :
    wpAny (model prog w) A (call (.builtin "min") [.ref l]) Q E s := by
  have hn : vs.size = xs.length + 1 := readsAll_len hr
  refine call_min_walkH (iter_listW (A := A.in1) hh hl fun s₂ e W st hfp hw hk => ⟨_, _, _, _, _, _, _, s.heap, _, rfl, W, st, hfp, by omega, hw, hk, cmpIn_lt (A := A.in1) hr ha (by show A.units + 1 + _ < _; exact hu), fun v s' hP m => ?_⟩)
  obtain ⟨h', tk, rfl, hk'⟩ := moved_old e rfl m
  have e1 : vs.size - 1 = xs.length := by omega
  rw [e1] at hP
  exact h v h' tk hP hk'
theorem max_idx {l : Addr} {vs : Array Value} {x : PyData} {xs : List PyData} {as : List Addr} {Q : Value → Shared → Prop} (hh : A.handled = none) (hl : s.heap.IsList l vs) (hr : ReadsAll s.heap vs.toList (x :: xs) as) (ha : AlikeAll (x :: xs)) (hu : A.units + 1 + PyData.depthAll (x :: xs) < cLine)
    (h : ∀ v h' tk, vs[argBest (fun i j => dataLt ((x :: xs).getD j .none) ((x :: xs).getD i .none)) xs.length]? = some v → (∀ b o, s.heap.get? b = some o → h'.get? b = some o) → Q v { s with heap := h', toks := tk }) :
    wpAny (model prog w) A (call (.builtin "max") [.ref l]) Q E s := by
  have hn : vs.size = xs.length + 1 := readsAll_len hr
  refine call_max_walkH (iter_listW (A := A.in1) hh hl fun s₂ e W st hfp hw hk => ⟨_, _, _, _, _, _, _, s.heap, _, rfl, W, st, hfp, by omega, hw, hk, cmpIn_gt (A := A.in1) hr ha (by show A.units + 1 + _ < _; exact hu), fun v s' hP m => ?_⟩)
  obtain ⟨h', tk, rfl, hk'⟩ := moved_old e rfl m
  have e1 : vs.size - 1 = xs.length := by omega
  rw [e1] at hP
  exact h v h' tk hP hk'
end
theorem getD_toP (l : List D) (i : Nat) : (l.map toP).getD i .none = toP (l.getD i .non) := by
  rw [List.getD_eq_getElem?_getD, List.getD_eq_getElem?_getD, List.getElem?_map]
  cases l[i]? with
  | none => unfold toP; rfl
  | some d => rfl
theorem vals_getR : ∀ {xs : List V} {us : List Value} {i : Nat} {u : Value}, Vals xs us → us[i]? = some u → ∃ x, xs[i]? = some x ∧ RelV x u
  | _, _, _, _, .nil, e => by simp at e
  | _, _, 0, _, .cons r _, e => by simp at e; subst e; exact ⟨_, rfl, r⟩
  | _, _, i + 1, u, .cons _ t, e => by
    obtain ⟨x, h1, h2⟩ := vals_getR (i := i) (u := u) t (by simpa using e)
    exact ⟨x, by simpa using h1, h2⟩
/-- the least of a list, by the places of its items -/
def rMinP (K : PySem.W.Frag) (isMax : Bool) : List V → Hp → VK → Prop := fun vs H Q => ∃ (a : Addr) (ws : List V) (x : PyData) (xs : List PyData), vs = [.ref a] ∧ SqL K H a ws ∧ DpAll K H ws (x :: xs) ∧ PySem.W.AlikeAll (x :: xs) ∧ PyData.depthAll (x :: xs) ≤ 60 ∧
  ∀ v, ws[argBest (fun i j => if isMax = true then PySem.W.dataLt ((x :: xs).getD j .none) ((x :: xs).getD i .none) else PySem.W.dataLt ((x :: xs).getD i .none) ((x :: xs).getD j .none)) xs.length]? = some v → Q v H
section
variable {X : Cx}
theorem cr_minP (hc : X.calm = true) (hu : X.A.units + 64 < cLine) : CallR X (.builtin "min") (rMinP X.K false) := by
  intro pins s σ H vs us Q I r h
  obtain ⟨a, ws, x, xs, rfl, hs, hd, ha, hz, q⟩ := h
  obtain ⟨its, rv, hl, _⟩ := I.list hs
  rw [Vals.ref1 r]
  obtain ⟨as, hr⟩ := Dp.readsAll I _ _ _ hd rv
  refine min_idx (I.ok.hd hc) hl.isList hr ha (by omega) fun v h' tk hv hk => ?_
  rw [List.getElem?_toArray] at hv
  obtain ⟨y, hy, ry⟩ := vals_getR rv hv
  exact ⟨y, H, I.kept hk, ry, q y hy⟩
theorem cr_maxP (hc : X.calm = true) (hu : X.A.units + 64 < cLine) : CallR X (.builtin "max") (rMinP X.K true) := by
  intro pins s σ H vs us Q I r h
  obtain ⟨a, ws, x, xs, rfl, hs, hd, ha, hz, q⟩ := h
  obtain ⟨its, rv, hl, _⟩ := I.list hs
  rw [Vals.ref1 r]
  obtain ⟨as, hr⟩ := Dp.readsAll I _ _ _ hd rv
  refine max_idx (I.ok.hd hc) hl.isList hr ha (by omega) fun v h' tk hv hk => ?_
  rw [List.getElem?_toArray] at hv
  obtain ⟨y, hy, ry⟩ := vals_getR rv hv
  exact ⟨y, H, I.kept hk, ry, q y hy⟩
end
def rdMinD : RDC := fun zs G Q => ∃ x xs n, zs = [.lst (x :: xs)] ∧ n ≤ 60 ∧ (∀ y ∈ x :: xs, pureN n y = true) ∧ PySem.W.AlikeAll ((x :: xs).map toP) ∧ Q (minF x xs) G
def rdMaxD : RDC := fun zs G Q => ∃ x xs n, zs = [.lst (x :: xs)] ∧ n ≤ 60 ∧ (∀ y ∈ x :: xs, pureN n y = true) ∧ PySem.W.AlikeAll ((x :: xs).map toP) ∧ Q (maxF x xs) G
theorem cll_minD {K : PySem.W.Frag} : CallL K (rMinP K false) rdMinD := by
  rintro Z zs vs G H Qd Q hr ds ⟨x, xs, n, rfl, hn, hp, ha, q⟩ c
  obtain ⟨v, rfl, d⟩ := ds.one
  cases d with
  | lst n1 g1 h1 z1 r1 =>
    rename_i a ws
    refine ⟨a, ws, toP x, xs.map toP, rfl, SqL.of h1, r1.dp n hp, ha, depthAll_le (n := 60) (fun y hy => ?_), fun v hv => ?_⟩
    · rw [← List.map_cons] at hy
      obtain ⟨e, he, rfl⟩ := List.mem_map.mp hy
      exact Nat.le_trans (pureN_ok n e (hp e he)).2 hn
    · have e := (PySem.W.argBest_fold dltP D.non x xs xs.length (Nat.le_refl _))
      rw [List.length_map] at hv
      have eq : (fun i j => if (false : Bool) = true then PySem.W.dataLt ((toP x :: xs.map toP).getD j .none) ((toP x :: xs.map toP).getD i .none) else PySem.W.dataLt ((toP x :: xs.map toP).getD i .none) ((toP x :: xs.map toP).getD j .none)) = fun i j => dltP ((x :: xs).getD i .non) ((x :: xs).getD j .non) := by
        funext i j
        rw [if_neg Bool.false_ne_true, ← List.map_cons, getD_toP, getD_toP] <;> rfl
      rw [eq] at hv
      obtain ⟨d, hd, rd⟩ := r1.getV hv
      have e2 := e.2
      rw [List.getD_eq_getElem?_getD, hd, List.take_length] at e2
      have e3 : d = minF x xs := e2
      rw [e3] at rd
      exact Ret.here c hr rd q
theorem cll_maxD {K : PySem.W.Frag} : CallL K (rMinP K true) rdMaxD := by
  rintro Z zs vs G H Qd Q hr ds ⟨x, xs, n, rfl, hn, hp, ha, q⟩ c
  obtain ⟨v, rfl, d⟩ := ds.one
  cases d with
  | lst n1 g1 h1 z1 r1 =>
    rename_i a ws
    refine ⟨a, ws, toP x, xs.map toP, rfl, SqL.of h1, r1.dp n hp, ha, depthAll_le (n := 60) (fun y hy => ?_), fun v hv => ?_⟩
    · rw [← List.map_cons] at hy
      obtain ⟨e, he, rfl⟩ := List.mem_map.mp hy
      exact Nat.le_trans (pureN_ok n e (hp e he)).2 hn
    · have e := (PySem.W.argBest_fold (fun a b => dltP b a) D.non x xs xs.length (Nat.le_refl _))
      rw [List.length_map] at hv
      have eq : (fun i j => if (true : Bool) = true then PySem.W.dataLt ((toP x :: xs.map toP).getD j .none) ((toP x :: xs.map toP).getD i .none) else PySem.W.dataLt ((toP x :: xs.map toP).getD i .none) ((toP x :: xs.map toP).getD j .none)) = fun i j => dltP ((x :: xs).getD j .non) ((x :: xs).getD i .non) := by
        funext i j
        rw [if_pos rfl, ← List.map_cons, getD_toP, getD_toP] <;> rfl
      rw [eq] at hv
      obtain ⟨d, hd, rd⟩ := r1.getV hv
      have e2 := e.2
      rw [List.getD_eq_getElem?_getD, hd, List.take_length] at e2
      have e3 : d = maxF x xs := e2
      rw [e3] at rd
      exact Ret.here c hr rd q
end TD
/-! # TD, 11: item assignment, append, pop, dicts -/
namespace TD
open PySem PySem.Spec PyProof.Rows L2

/-! ### lists at an address -/
/-- o[i] = e of a told list -/
def dSetL (a o i : DE) : DS := fun D ρ G => a ρ (D.xx ρ) G fun z G1 => o ρ (D.xx ρ) G1 fun l G2 => i ρ (D.xx ρ) G2 fun k G3 => ∃ p xs n j, l = .ref p ∧ k = .int n ∧ G3 p = some (.lst xs) ∧ ixN xs.length n = some j ∧ D.nx ρ (gup G3 p (.lst (xs.set j z)))
section
variable {X : Cx} {W : WX} {e o i : Expr} {a da do_ di : DE} {pos p' : Pos}
theorem pds_setL (ha : PD X W e da) (ho : PD X W o do_) (hi : PD X W i di)
    (hs : swapsWithSole [.Subscript o i p'] e pos.line X.env = pure false := by rfl) (hw : swappedStores [.Subscript o i p'] e X.env = pure none := by rfl) (h1 : (assignEach [.Subscript o i p'] X.env).map (·.2) = [assign (.Subscript o i p') X.env] := by rfl)
    (hg : ∀ v, assign (.Subscript o i p') X.env v = (do
      let ov ← holding [v] (eval o X.env)
      let iv ← holding [v, ov] (eval i X.env)
      standAt p'
      holding [v, ov, iv] (setItem ov iv v)
      release [v, ov, iv] []) := by intro _; rfl) : PDS X W (.Assign [.Subscript o i p'] e pos) (dSetL da do_ di) :=
  PS.imp (ps_asg ha (pg_sub ho hi set_list hg) hs hw h1) fun E σ H ⟨Z, ρ, G, Dd, sr, hr, h, ok⟩ => ⟨Z, ρ, Dd.xx ρ, G, _, sr, hr, h, fun z v G1 H1 f1 r1 d1 q1 =>
    ⟨Z, ρ, Dd.xx ρ, G1, _, sr.mono f1, r1, q1, fun l lv G2 H2 f2 r2 d2 q2 => ⟨Z, ρ, Dd.xx ρ, G2, _, sr.mono (f1.trans f2), r2, q2, fun k kv G3 H3 f3 r3 d3 ⟨p, xs, n, j, el, ek, g, hj, q⟩ => by
      subst el ek
      cases d2
      cases d3
      obtain ⟨vs, hp, rv, hz⟩ := r3.at_ _ _ g
      refine ⟨p, vs, n, j, rfl, rfl, hp, by rw [← rv.length]; exact hj, ?_⟩
      have f4 : Fr G3 H3 (gup G3 p (.lst (xs.set j z))) (upd H3 p (.lst (vs.set j v))) := Fr.put g
      have r4 : HR X.K Z (gup G3 p (.lst (xs.set j z))) (upd H3 p (.lst (vs.set j v))) := r3.put g ⟨_, upd_same, (rv.mono f4).set (d1.mono (f2.trans (f3.trans f4))) j, by rw [List.length_set]; exact hz⟩
      exact ok.nx ρ σ _ _ (f1.trans (f2.trans (f3.trans f4))) r4 (sr.mono (f1.trans (f2.trans (f3.trans f4)))) q, (ok.xo sr).mono (f1.trans f2)⟩, (ok.xo sr).mono f1⟩, ok.xo sr⟩
end
/-- methods of told lists -/
abbrev RDM := D → List D → GH → DK → Prop
def MthL (K : PySem.W.Frag) (T : String) (r : V → List V → Hp → VK → Prop) (rd : RDM) : Prop :=
  ∀ Z z zs v vs G H Qd Q, HR K Z G H → DV K Z G H z v → DVs K Z G H zs vs → rd z zs G Qd → Ret K Z G H Qd Q → r v vs H Q
def dMth (rd : RDM) (o : DE) (t : DA) : DE := fun ρ x G Q => o ρ x G fun z G1 => t ρ x G1 fun zs G2 => rd z zs G2 Q
/-- the receiver is of the type T -/
def tyM (T : String) (z : D) (G : GH) : Prop := match z with
  | .str _ => T = "str"
  | .lst _ => T = "list"
  | .scr _ => T = "list"
  | .dic => T = "dict"
  | .ref a => (T = "list" ∧ ∃ xs, G a = some (.lst xs)) ∨ (T = "dict" ∧ ((∃ kvs, G a = some (.dK kvs)) ∨ ∃ kvs, G a = some (.dT kvs)))
  | _ => False
theorem tyM_V {K : PySem.W.Frag} {Z : Addr → Prop} {G : GH} {H : Hp} {T : String} {z : D} {v : V} (hr : HR K Z G H) (d : DV K Z G H z v) (h : tyM T z G) : tyV K T v H := by
  unfold tyM at h
  split at h
  · cases d; exact h
  · cases d with
    | lst n1 g1 h1 z1 r1 => exact .inl ⟨h, _, SqL.of h1⟩
  · cases d with
    | scr h1 z1 => exact .inl ⟨h, _, h1.seq⟩
  · cases d with
    | dic n1 g1 h1 => exact .inr (.inr (.inl ⟨h, h1⟩))
  · cases d
    rcases h with ⟨h, xs, g⟩ | ⟨h, ⟨kvs, g⟩ | ⟨kvs, g⟩⟩
    · obtain ⟨vs, h1, _⟩ := hr.at_ _ _ g
      exact .inl ⟨h, _, SqL.of h1⟩
    · obtain ⟨vs, h1, _⟩ := hr.at_ _ _ g
      exact .inr (.inr (.inl ⟨h, .inl ⟨vs, h1⟩⟩))
    · obtain ⟨vs, h1, _⟩ := hr.at_ _ _ g
      exact .inr (.inr (.inl ⟨h, .inr ⟨vs, h1⟩⟩))
  · exact h.elim
def dMthT (T : String) (rd : RDM) (o : DE) (t : DA) : DE := fun ρ x G Q => o ρ x G fun z G1 => tyM T z G1 ∧ t ρ x G1 fun zs G2 => rd z zs G2 Q
section
variable {X : Cx} {W : WX} {e o : Expr} {es : List Expr} {do_ : DE} {t : DA} {name : Str} {apos cpos : Pos} {T id : String} {r : V → List V → Hp → VK → Prop} {rd : RDM}
theorem low_mth {K : PySem.W.Frag} (hl : MthL K T r rd) : ∀ σ H Q, lowE K W (dMthT T rd do_ t) σ H Q → tBM K T r (lowE K W do_) (lowA K W t) σ H Q := fun σ H Q ⟨Z, ρ, x, G, Qd, sr, hr, h, c, xo⟩ =>
  ⟨Z, ρ, x, G, _, sr, hr, h, fun z v G1 H1 f1 r1 d1 ⟨ty, q1⟩ => ⟨tyM_V r1 d1 ty, Z, ρ, x, G1, _, sr.mono f1, r1, q1, fun zs vs G2 H2 f2 r2 d2 q2 => hl Z z zs v vs G2 H2 Qd Q r2 (d1.mono f2) d2 q2 (Ret.mono (f1.trans f2) c), xo.mono f1⟩, xo⟩
theorem pd_mth (pa : PlainAttrs T) (slot : Slot T name id) (hty : typeOf (.builtin id) = pure (.type "method_descriptor")) (hm : MtR X id r) (hl : MthL X.K T r rd) (ho : PD X W o do_) (ha : PDA X W (e :: es) t)
    (hbase : attributeBase o name X.env (eval o X.env) = eval o X.env := by rfl)
    (hfew : ((backTo cpos (starEach (e :: es) X.env)).all (fun x => !x.1) && (backToKw cpos (keywordEach [] X.env)).all (fun x => x.1.isSome)
      && decide ((e :: es).length + ([] : List Keyword).length + (if ([] : List Keyword).isEmpty then 0 else 1) < 30)) = true := by rfl)
    (hline : (apos.endLine == cpos.line) = true := by rfl) (hs : starEach (e :: es) X.env = (false, eval e X.env) :: starEach es X.env := by rfl) (hplain : (backTo cpos (starEach es X.env)).any (·.1) = false := by rfl) :
    PD X W (.Call (.Attribute o name apos) (e :: es) [] cpos) (dMthT T rd do_ t) := PE.imp (pe_bm pa slot hty hm ho ha hbase hfew hline hs hplain) (low_mth hl)
def dMth0 (T : String) (rd : RDM) (o : DE) : DE := fun ρ x G Q => o ρ x G fun z G1 => tyM T z G1 ∧ rd z [] G1 Q
theorem pd_mth0 (pa : PlainAttrs T) (slot : Slot T name id) (hty : typeOf (.builtin id) = pure (.type "method_descriptor")) (hm : MtR X id r) (hl : MthL X.K T r rd) (ho : PD X W o do_)
    (hbase : attributeBase o name X.env (eval o X.env) = eval o X.env := by rfl) (hline : (apos.endLine == cpos.line) = true := by rfl) :
    PD X W (.Call (.Attribute o name apos) [] [] cpos) (dMth0 T rd do_) := PE.imp (pe_bm0 pa slot hty hm ho hbase hline) fun σ H Q ⟨Z, ρ, x, G, Qd, sr, hr, h, c, xo⟩ =>
  ⟨Z, ρ, x, G, _, sr, hr, h, fun z v G1 H1 f1 r1 d1 ⟨ty, q1⟩ => ⟨tyM_V r1 d1 ty, hl Z z [] v [] G1 H1 Qd Q r1 d1 .nil q1 (Ret.mono f1 c)⟩, xo⟩
end
def rdAppend : RDM := fun z zs G Q => ∃ a xs y, z = .ref a ∧ zs = [y] ∧ G a = some (.lst xs) ∧ xs.length < sizeLine ∧ Q .non (gup G a (.lst (xs ++ [y])))
theorem mth_append {K : PySem.W.Frag} : MthL K "list" rAppend rdAppend := by
  rintro Z z zs v vs G H Qd Q hr dz ds ⟨a, xs, y, rfl, rfl, g, hz, q⟩ c
  cases dz
  obtain ⟨u, rfl, du⟩ := ds.one
  obtain ⟨ws, h1, r1, z1⟩ := hr.at_ _ _ g
  have l1 := r1.length
  refine ⟨a, ws, u, rfl, rfl, h1, by omega, ?_⟩
  have f : Fr G H (gup G a (.lst (xs ++ [y]))) (upd H a (.lst (ws ++ [u]))) := Fr.put g
  exact c .non .non _ _ f (hr.put g ⟨_, upd_same, (r1.mono f).append (.cons (du.mono f) .nil), by rw [List.length_append, List.length_singleton]; omega⟩) .non q
def rdPop : RDM := fun z zs G Q => ∃ a xs y, z = .ref a ∧ zs = [] ∧ G a = some (.lst xs) ∧ xs[xs.length - 1]? = some y ∧ Q y (gup G a (.lst xs.dropLast))
theorem DVs.dropLast {K : PySem.W.Frag} {Z : Addr → Prop} {G : GH} {H : Hp} : ∀ {ds : List D} {vs : List V}, DVs K Z G H ds vs → DVs K Z G H ds.dropLast vs.dropLast := fun {ds vs} h => by
  rw [List.dropLast_eq_take, List.dropLast_eq_take, h.length]
  exact h.take _
theorem mth_pop {K : PySem.W.Frag} : MthL K "list" rPop rdPop := by
  rintro Z z zs v vs G H Qd Q hr dz ds ⟨a, xs, y, rfl, rfl, g, hy, q⟩ c
  cases dz
  cases ds
  obtain ⟨ws, h1, r1, z1⟩ := hr.at_ _ _ g
  obtain ⟨u, hu, du⟩ := r1.get hy
  refine ⟨a, ws, u, rfl, rfl, h1, by rw [← r1.length]; exact hu, ?_⟩
  have f : Fr G H (gup G a (.lst xs.dropLast)) (upd H a (.lst ws.dropLast)) := Fr.put g
  exact c y u _ _ f (hr.put g ⟨_, upd_same, (r1.mono f).dropLast, by rw [List.length_dropLast]; omega⟩) (du.mono f) q

/-! ### dicts at an address -/
def kD : Key → D
  | .inl i => .int i
  | .inr x => .str x
theorem kD_V {K : PySem.W.Frag} {Z : Addr → Prop} {G : GH} {H : Hp} {k : Key} {v : V} (d : DV K Z G H (kD k) v) : v = kV k := by
  cases k <;> (cases d; rfl)
theorem kD_D {K : PySem.W.Frag} {Z : Addr → Prop} {G : GH} {H : Hp} (k : Key) : DV K Z G H (kD k) (kV k) := by
  cases k
  · exact .int _
  · exact .str _
section
variable {κ : Type} [DecidableEq κ]
def valD (kvs : List (κ × D)) (k : κ) : Option D := (kvs.find? fun kv => decide (kv.1 = k)).map (·.2)
def putD (kvs : List (κ × D)) (k : κ) (d : D) : List (κ × D) := if (kvs.any fun kv => decide (kv.1 = k)) = true then kvs.map (fun kv => if kv.1 = k then (kv.1, d) else kv) else kvs ++ [(k, d)]
variable {K : PySem.W.Frag} {Z : Addr → Prop} {G : GH} {H : Hp}
theorem PairD.length : ∀ {l : List (κ × D)} {m : List (κ × V)}, PairD K Z G H l m → l.length = m.length
  | _, _, .nil => rfl
  | _, _, .cons _ b => by rw [List.length_cons, List.length_cons, PairD.length b]
theorem PairD.val {k : κ} {d : D} : ∀ {l : List (κ × D)} {m : List (κ × V)}, PairD K Z G H l m → valD l k = some d → ∃ v, valV m k = some v ∧ DV K Z G H d v
  | _, _, .nil, h => by simp [valD] at h
  | p :: l, q :: m, .cons a b, h => by
    by_cases e : p.1 = k
    · rw [valV_pos (a.1.symm.trans e)]
      simp only [valD, List.find?_cons, e, decide_true, Option.map_some, Option.some.injEq] at h
      exact ⟨_, rfl, h ▸ a.2⟩
    · rw [valV_neg (fun z => e (a.1.trans z))]
      refine PairD.val b ?_
      simpa [valD, List.find?_cons, e] using h
theorem PairD.noval {k : κ} : ∀ {l : List (κ × D)} {m : List (κ × V)}, PairD K Z G H l m → valD l k = none → valV m k = none
  | _, _, .nil, h => rfl
  | p :: l, q :: m, .cons a b, h => by
    by_cases e : p.1 = k
    · simp [valD, List.find?_cons, e] at h
    · rw [valV_neg (fun z => e (a.1.trans z))]
      refine PairD.noval b ?_
      simpa [valD, List.find?_cons, e] using h
theorem PairD.any {k : κ} : ∀ {l : List (κ × D)} {m : List (κ × V)}, PairD K Z G H l m → (l.any fun kv => decide (kv.1 = k)) = (m.any fun kv => decide (kv.1 = k))
  | _, _, .nil => rfl
  | _, _, .cons a b => by rw [List.any_cons, List.any_cons, PairD.any b, a.1]
theorem PairD.map {k : κ} {d : D} {v : V} (r : DV K Z G H d v) : ∀ {l : List (κ × D)} {m : List (κ × V)}, PairD K Z G H l m → PairD K Z G H (l.map fun kv => if kv.1 = k then (kv.1, d) else kv) (m.map fun kv => if kv.1 = k then (kv.1, v) else kv)
  | _, _, .nil => .nil
  | p :: l, q :: m, .cons a b => by
    rw [List.map_cons, List.map_cons]
    refine .cons ?_ (PairD.map r b)
    by_cases e : p.1 = k
    · rw [if_pos e, if_pos (a.1.symm.trans e)]; exact ⟨a.1, r⟩
    · rw [if_neg e, if_neg (fun z => e (a.1.trans z))]; exact a
theorem PairD.snoc {k : κ} {d : D} {v : V} (r : DV K Z G H d v) : ∀ {l : List (κ × D)} {m : List (κ × V)}, PairD K Z G H l m → PairD K Z G H (l ++ [(k, d)]) (m ++ [(k, v)])
  | _, _, .nil => .cons ⟨rfl, r⟩ .nil
  | _, _, .cons a b => .cons a (PairD.snoc r b)
theorem PairD.put {k : κ} {d : D} {v : V} (r : DV K Z G H d v) {l : List (κ × D)} {m : List (κ × V)} (h : PairD K Z G H l m) : PairD K Z G H (putD l k d) (putK m k v) := by
  unfold putD putK
  rw [h.any]
  split
  · exact h.map r
  · exact h.snoc r
end
/-- a dict at a, locked or not -/
def DAt (G : GH) (a : Addr) (kvs : List (Key × D)) : Prop := G a = some (.dK kvs) ∨ ∃ o ks, G a = some (.fK o ks kvs)
theorem DAt.rd {K : PySem.W.Frag} {Z : Addr → Prop} {G : GH} {H : Hp} {a : Addr} {kvs : List (Key × D)} (h : DAt G a kvs) (hr : HR K Z G H) : ∃ ks, Rd H a (.dK ks) ∧ PairD K Z G H kvs ks := by
  rcases h with h | ⟨o, ks, h⟩
  · obtain ⟨ks, h1, r1⟩ := hr.at_ _ _ h
    exact ⟨ks, .inl h1, r1⟩
  · obtain ⟨h1, r1⟩ := hr.at_ _ _ h
    exact ⟨ks, .inr ⟨o, h1⟩, r1⟩
/-- d[k] -/
def rdDIx : RD2 := fun z y G Q => ∃ a k d, z = .ref a ∧ y = kD k ∧ (∃ kvs, DAt G a kvs ∧ valD kvs k = some d) ∧ Q d G
def rDIx : R2 := fun x y H Q => ∃ a v, x = .ref a ∧ DGet H a y (some v) ∧ Q v H
theorem ix_dict {X : Cx} (hu : X.A.units + 64 < cLine) : IxR X rDIx := by
  intro value slice pins s σ H x y v u Q I rx ry h hs
  obtain ⟨a, r, rfl, g, q⟩ := h
  obtain rfl : v = Value.ref a := rx
  exact tail_any (dict_typeIs I g) PySem.F.slot_dict_getitem.lookup (d_getItem (by omega) I g ry fun w' s' I' rw' => ⟨r, H, I', rw', q⟩) hs
theorem opl_dix {K : PySem.W.Frag} : OpL K rDIx rdDIx := by
  rintro Z z y vz vy G H Qd Q hr dz dy ⟨a, k, d, rfl, rfl, ⟨kvs, g, e⟩, q⟩ c
  cases dz
  obtain ⟨ks, h1, r1⟩ := g.rd hr
  obtain ⟨v, h2, r2⟩ := r1.val e
  obtain rfl := kD_V dy
  exact ⟨a, v, rfl, .inl ⟨ks, k, h1, rfl, h2.symm⟩, Ret.here c hr r2 q⟩
/-- k in d, k not in d -/
def rdDIn (pos : Bool) : RD2 := fun y z G Q => ∃ a k kvs, z = .ref a ∧ y = kD k ∧ DAt G a kvs ∧ Q (.bl ((valD kvs k).isSome == pos)) G
section
variable {X : Cx} {W : WX} {a b e o i : Expr} {da db do_ di : DE} {pos p' : Pos}
theorem pd_dix (hu : X.A.units + 64 < cLine) (ha : PD X W a da) (hb : PD X W b db) (hs : PlainIx b := by exact fun _ _ => rfl) : PD X W (.Subscript a b pos) (dOp rdDIx da db) := PE.imp (pe_ix (ix_dict hu) ha hb hs) (low_op opl_dix)
/-- d[k] = e -/
def dSetD (a o i : DE) : DS := fun D ρ G => a ρ (D.xx ρ) G fun z G1 => o ρ (D.xx ρ) G1 fun l G2 => i ρ (D.xx ρ) G2 fun y G3 => ∃ p kvs k, l = .ref p ∧ y = kD k ∧ G3 p = some (.dK kvs) ∧ kvs.length < sizeLine ∧ D.nx ρ (gup G3 p (.dK (putD kvs k z)))
theorem pds_setD (hu : X.A.units + 64 < cLine) (ha : PD X W e da) (ho : PD X W o do_) (hi : PD X W i di)
    (hs : swapsWithSole [.Subscript o i p'] e pos.line X.env = pure false := by rfl) (hw : swappedStores [.Subscript o i p'] e X.env = pure none := by rfl) (h1 : (assignEach [.Subscript o i p'] X.env).map (·.2) = [assign (.Subscript o i p') X.env] := by rfl)
    (hg : ∀ v, assign (.Subscript o i p') X.env v = (do
      let ov ← holding [v] (eval o X.env)
      let iv ← holding [v, ov] (eval i X.env)
      standAt p'
      holding [v, ov, iv] (setItem ov iv v)
      release [v, ov, iv] []) := by intro _; rfl) : PDS X W (.Assign [.Subscript o i p'] e pos) (dSetD da do_ di) :=
  PS.imp (ps_asg ha (pg_sub ho hi (set_dict (by omega)) hg) hs hw h1) fun E σ H ⟨Z, ρ, G, Dd, sr, hr, h, ok⟩ => ⟨Z, ρ, Dd.xx ρ, G, _, sr, hr, h, fun z v G1 H1 f1 r1 d1 q1 =>
    ⟨Z, ρ, Dd.xx ρ, G1, _, sr.mono f1, r1, q1, fun l lv G2 H2 f2 r2 d2 q2 => ⟨Z, ρ, Dd.xx ρ, G2, _, sr.mono (f1.trans f2), r2, q2, fun y yv G3 H3 f3 r3 d3 ⟨p, kvs, k, el, ey, g, hz, q⟩ => by
      subst el ey
      cases d2
      obtain rfl := kD_V d3
      obtain ⟨ks, hp, rk⟩ := r3.at_ _ _ g
      refine ⟨p, _, rfl, DPut.k hp (by rw [← rk.length]; exact hz), ?_⟩
      have f4 : Fr G3 H3 (gup G3 p (.dK (putD kvs k z))) (upd H3 p (.dK (putK ks k v))) := Fr.put g
      have r4 : HR X.K Z (gup G3 p (.dK (putD kvs k z))) (upd H3 p (.dK (putK ks k v))) := r3.put g ⟨_, upd_same, (rk.mono f4).put (d1.mono (f2.trans (f3.trans f4)))⟩
      exact ok.nx ρ σ _ _ (f1.trans (f2.trans (f3.trans f4))) r4 (sr.mono (f1.trans (f2.trans (f3.trans f4)))) q, (ok.xo sr).mono (f1.trans f2)⟩, (ok.xo sr).mono f1⟩, ok.xo sr⟩
/-- {} -/
def dNewD : DE := fun _ _ G Q => ∀ p, G p = none → Q (.ref p) (gup G p (.dK []))
theorem pd_newD : PD X W (.Dict [] [] pos) dNewD := PE.imp pe_dnewK fun σ H Q ⟨Z, ρ, x, G, Qd, sr, hr, h, c, xo⟩ p hp =>
  c (.ref p) _ _ _ (Fr.newT hp) (hr.newT (m := .dK []) hp ⟨[], upd_same, .nil⟩) (.ref p) (h p (hr.free hp))
/-- {k: v} -/
def dDisp1 (a b : DE) : DE := fun ρ x G Q => ∀ p, G p = none → a ρ x (gup G p (.dK [])) fun y G1 => b ρ x G1 fun z G2 => G2 p = some (.dK []) ∧ ∃ k, y = kD k ∧ Q (.ref p) (gup G2 p (.dK [(k, z)]))
theorem pd_disp1 (ha : PD X W a da) (hb : PD X W b db) : PD X W (.Dict [some a] [b] pos) (dDisp1 da db) :=
  PE.imp (pe_disp (pps_cons ha hb pps_nil) rfl rfl (by simp) (by simp)) fun σ H Q ⟨Z, ρ, x, G, Qd, sr, hr, h, c, xo⟩ p hp => by
    have f0 : Fr G H (gup G p (.dK [])) (upd H p (.dK [])) := Fr.newT hp
    refine ⟨Z, ρ, x, _, _, sr.mono f0, hr.newT (m := .dK []) hp ⟨[], upd_same, .nil⟩, h p (hr.free hp), fun y yv G1 H1 f1 r1 d1 q1 => ⟨Z, ρ, x, G1, _, sr.mono (f0.trans f1), r1, q1, fun z zv G2 H2 f2 r2 d2 ⟨g, k, ek, q⟩ => ?_, xo.mono (f0.trans f1)⟩, xo.mono f0⟩
    subst ek
    obtain rfl := kD_V d1
    obtain ⟨ks, h1, rk⟩ := r2.at_ _ _ g
    cases rk
    refine ⟨h1, [(k, zv)], rfl, by simp, ?_⟩
    have f3 : Fr G2 H2 (gup G2 p (.dK [(k, z)])) (upd H2 p (.dK [(k, zv)])) := Fr.put g
    exact c (.ref p) _ _ _ (f0.trans (f1.trans (f2.trans f3))) (r2.put g ⟨_, upd_same, .cons ⟨rfl, d2.mono f3⟩ .nil⟩) (.ref p) q
end
end TD
/-! # TD, 12: keywords, is True, unary minus, slices from behind -/
namespace TD
open PySem PySem.Spec PyProof.Rows L2

/-! ### keywords -/
def pickK (n m : Nat) (idx : List Nat) {α : Type} (us ws : List α) : List α := if us.length = n ∧ ws.length = m then us ++ idx.filterMap (fun i => ws[i]?) else []
theorem vals_pick {vs : List V} {us : List Value} (r : Vals vs us) : ∀ idx : List Nat, Vals (idx.filterMap fun i => vs[i]?) (idx.filterMap fun i => us[i]?)
  | [] => .nil
  | i :: idx => by
    have ih := vals_pick r idx
    cases e : vs[i]? with
    | some v =>
      obtain ⟨u, hu, ru⟩ := r.get e
      rw [List.filterMap_cons_some e, List.filterMap_cons_some hu]
      exact .cons ru ih
    | none =>
      have hu : us[i]? = none := by
        rw [List.getElem?_eq_none_iff] at e ⊢
        rw [← r.length]; exact e
      rw [List.filterMap_cons_none e, List.filterMap_cons_none hu]
      exact ih
theorem DVs.pick {K : PySem.W.Frag} {Z : Addr → Prop} {G : GH} {H : Hp} {ds : List D} {vs : List V} (r : DVs K Z G H ds vs) : ∀ idx : List Nat, DVs K Z G H (idx.filterMap fun i => ds[i]?) (idx.filterMap fun i => vs[i]?)
  | [] => .nil
  | i :: idx => by
    have ih := DVs.pick r idx
    cases e : ds[i]? with
    | some v =>
      obtain ⟨u, hu, ru⟩ := r.get e
      rw [List.filterMap_cons_some e, List.filterMap_cons_some hu]
      exact .cons ru ih
    | none =>
      have hu : vs[i]? = none := by
        rw [List.getElem?_eq_none_iff] at e ⊢
        rw [← r.length]; exact e
      rw [List.filterMap_cons_none e, List.filterMap_cons_none hu]
      exact ih
theorem DVs.pickK {K : PySem.W.Frag} {Z : Addr → Prop} {G : GH} {H : Hp} {ds es : List D} {vs us : List V} (r : DVs K Z G H ds vs) (r2 : DVs K Z G H es us) (n m : Nat) (idx : List Nat) : DVs K Z G H (TD.pickK n m idx ds es) (TD.pickK n m idx vs us) := by
  unfold TD.pickK
  rw [r.length, r2.length]
  split
  · exact r.append (r2.pick idx)
  · exact .nil
theorem kb_of {K : PySem.W.Frag} {x qual : Str} {st : Stmt} {f : Addr} {fd : FuncData} {ps ks : List Str} (n m : Nat) (idx : List Nat) (F : Fun K x qual st f fd) (hps : ps ≠ [])
    (h : ∀ (kV doc pm : Value) (an : Option Addr) (cdv ct : Value) (us ws : List Value), us.length = n → ws.length = m →
      bindArgs (PySem.W.fnOf x qual (defArgs st) (defBody st) (defScope st) .none kV doc pm an cdv ct) ⟨us, ks.zip ws⟩ = pure (ps.zip (us ++ idx.filterMap fun i => ws[i]?))) : KBinds K fd ps ks (pickK n m idx) (pickK n m idx) := by
  obtain ⟨oc, od, kV, doc, pm, an, cdv, ct, osl, rfl, lk, hcd⟩ := F.ex
  refine ⟨fun s us ws X hl => ?_, fun {vs us zs ws} r r2 => ?_⟩
  · unfold pickK at hl ⊢
    by_cases c : us.length = n ∧ ws.length = m
    · rw [if_pos c]
      exact .of_eq (h kV doc pm an cdv ct us ws c.1 c.2)
    · rw [if_neg c] at hl
      exact absurd (List.eq_nil_of_length_eq_zero hl.symm) hps
  · unfold pickK
    rw [r.length, r2.length]
    split
    · exact r.append (vals_pick r2 idx)
    · exact .nil
def tCallKS (sp : Sp) (gV : List V → List V → List V) (E : L2.St → XK) (t tk : TA) : TE := fun σ H Q => t σ H fun vs H1 => tk σ H1 fun zs H2 => sp (gV vs zs) H2 Q (E σ)
section
variable {X : Cx} {CX : CXT} {k : Nat} {f : Addr} {fd : FuncData} {ps ks : List Str} {sp : Sp} {E : L2.St → XK} {x : Str} {p pos : Pos} {e : Expr} {es : List Expr} {kws : List Keyword} {t tk : TA} {g : List Value → List Value → List Value} {gV : List V → List V → List V}
theorem run_fnkS {pins : List (Addr × Obj)} {σ : L2.St} {H : Hp} {s : Shared} {Q : VK} {us ws : List Value} {vs zs : List V} (F : FnOk X.prog X.w X.K X.mg X.base CX k f fd ps sp) (hr : Room k X.A) (hb : KBinds X.K fd ps ks g gV) (hx : PassesAt CX X σ (E σ))
    (I : Inv X pins σ H s) (r : Vals vs us) (rz : Vals zs ws) (h : sp (gV vs zs) H Q (E σ)) : wpAny (model X.prog X.w) X.A (call (.ref f) us (ks.zip ws)) (EP X pins σ Q) X.xe s := by
  have r2 := hb.rel r rz
  have hl : (g us ws).length = ps.length := by rw [← r2.length]; exact F.len _ _ _ _ h
  refine wpAny_call (codeAny_mono (F.run X.A X.stack s H ⟨us, ks.zip ws⟩ (g us ws) (gV vs zs) Q (E σ) hr I.env0 (hb.to s us ws I.kIn hl) r2 h) fun r s' hq => ?_)
  cases r with
  | error e => exact hx pins H s e s' I hq
  | ok fl => cases fl <;> first | exact I.after hq | exact False.elim hq
theorem pe_callKS (F : FnOk X.prog X.w X.K X.mg X.base CX k f fd ps sp) (hr : Room k X.A) (hg : Gl X x) (hm : X.mg x = some (.ref f)) (hk : PySem.W.keepIn X.K (.ref f) = true) (hb : KBinds X.K fd ps ks g gV) (hx : ∀ σ, PassesAt CX X σ (E σ))
    (ha : PA X (e :: es) t) (hkw : PK X kws tk) (hall : (backToKw pos (keywordEach kws X.env)).all (·.1.isSome) = true) (hks : (backToKw pos (keywordEach kws X.env)).filterMap (·.1) = ks)
    (hdb : (x == ("__debug__" : Str)) = false) (he : starEach (e :: es) X.env = (false, eval e X.env) :: starEach es X.env)
    (hpl : ((backTo pos (starEach (e :: es) X.env)).any (·.1) || (backToKw pos (keywordEach kws X.env)).any (·.1.isNone)) = false) : PE X (.Call (.Name x p) (e :: es) kws pos) (tCallKS sp gV E t tk) := ⟨fun pins s σ H Q I h =>
  wpAny_Call_Name_kw (ld_glob I hg hm (PySem.W.callWith_KW (h₀ := X.base) I.ok.mod.kin hk hall (thn (ha.run pos pins s σ H _ I h) fun us s1 ⟨vs, H1, I1, r, q⟩ =>
    thn (hkw.run pos pins s1 σ H1 _ I1 q) fun ws s2 ⟨zs, H2, I2, rz, q2⟩ => ⟨I2.kIn, by rw [hks]; exact run_fnkS F hr hb (hx σ) I2 r rz q2⟩) hpl he) hdb)⟩
theorem pe_callKS0 (F : FnOk X.prog X.w X.K X.mg X.base CX k f fd ps sp) (hr : Room k X.A) (hg : Gl X x) (hm : X.mg x = some (.ref f)) (hk : PySem.W.keepIn X.K (.ref f) = true) (hb : KBinds X.K fd ps ks g gV) (hx : ∀ σ, PassesAt CX X σ (E σ))
    (hkw : PK X kws tk) (hall : (backToKw pos (keywordEach kws X.env)).all (·.1.isSome) = true) (hks : (backToKw pos (keywordEach kws X.env)).filterMap (·.1) = ks)
    (hdb : (x == ("__debug__" : Str)) = false) (hpl : ((backTo pos (starEach [] X.env)).any (·.1) || (backToKw pos (keywordEach kws X.env)).any (·.1.isNone)) = false) : PE X (.Call (.Name x p) [] kws pos) (tCallKS sp gV E tNil tk) := ⟨fun pins s σ H Q I h =>
  wpAny_Call_Name_kw (ld_glob I hg hm (PySem.W.callWith_KW0 (h₀ := X.base) I.ok.mod.kin hk hall (thn (hkw.run pos pins s σ H _ I h) fun ws s2 ⟨zs, H2, I2, rz, q2⟩ => ⟨I2.kIn, by
    rw [hks, List.append_nil]; exact run_fnkS F hr hb (hx σ) I2 .nil rz q2⟩) hpl) hdb)⟩
end
def dCallK (sp : SpD) (n m : Nat) (idx : List Nat) (t tk : DA) : DE := fun ρ x G Q => t ρ x G fun zs G1 => tk ρ x G1 fun ws G2 => sp (pickK n m idx zs ws) G2 Q x
abbrev PDK (X : Cx) (W : WX) (kws : List Keyword) (d : DA) : Prop := PK X kws (lowA X.K W d)
section
variable {X : Cx} {W : WX} {k n m : Nat} {idx : List Nat} {f : Addr} {fd : FuncData} {ps ks : List Str} {sp : SpD} {x : Str} {p pos kpos : Pos} {e : Expr} {es : List Expr} {kws : List Keyword} {t tk : DA} {da : DE} {nm : Option Str}
theorem pdk_nil : PDK X W [] dNil := ⟨fun pos pins s σ H Q I ⟨Z, ρ, x, G, Qd, sr, hr, h, c, xo⟩ => pk_nil.run pos pins s σ H Q I (c [] [] G H (Fr.refl G H) hr .nil h)⟩
theorem pdk_cons (ha : PD X W e da) (hr : PDK X W kws t) : PDK X W (⟨nm, e, kpos⟩ :: kws) (dCons da t) := ⟨fun pos pins s σ H Q I h => (pk_cons ha hr).run pos pins s σ H Q I (low_cons σ H Q h)⟩
theorem low_callK {K : PySem.W.Frag} : ∀ σ H Q, lowE K W (dCallK sp n m idx t tk) σ H Q → tCallKS (lowSp K sp) (pickK n m idx) (WE W) (lowA K W t) (lowA K W tk) σ H Q := fun σ H Q ⟨Z, ρ, x, G, Qd, sr, hr, h, c, xo⟩ =>
  ⟨Z, ρ, x, G, _, sr, hr, h, fun zs vs G1 H1 f1 r1 d1 q1 => ⟨Z, ρ, x, G1, _, sr.mono f1, r1, q1, fun ws us G2 H2 f2 r2 d2 q2 => ⟨Z, _, G2, Qd, x, (d1.mono f2).pickK d2 n m idx, r2, q2, Ret.mono (f1.trans f2) c, fun C fs d fv G3 H3 f3 r3 e n p q => xo C fs d fv G3 H3 (f1.trans (f2.trans f3)) r3 e n p q⟩, xo.mono f1⟩, xo⟩
theorem pd_callK (F : FnD X.prog X.w X.K X.mg X.base k f fd ps sp) (hr : Room k X.A) (hm : X.mg x = some (.ref f)) (hk : PySem.W.keepIn X.K (.ref f) = true) (hb : KBinds X.K fd ps ks (pickK n m idx) (pickK n m idx)) (tk_ : Takes X W) (ha : PDA X W (e :: es) t) (hkw : PDK X W kws tk) (hg : Gl X x := by rfl)
    (hall : (backToKw pos (keywordEach kws X.env)).all (·.1.isSome) = true := by rfl) (hks : (backToKw pos (keywordEach kws X.env)).filterMap (·.1) = ks := by rfl) (hdb : (x == ("__debug__" : Str)) = false := by decide)
    (he : starEach (e :: es) X.env = (false, eval e X.env) :: starEach es X.env := by rfl) (hpl : ((backTo pos (starEach (e :: es) X.env)).any (·.1) || (backToKw pos (keywordEach kws X.env)).any (·.1.isNone)) = false := by rfl) :
    PD X W (.Call (.Name x p) (e :: es) kws pos) (dCallK sp n m idx t tk) := PE.imp (pe_callKS F hr hg hm hk hb (fun σ => passAt tk_ σ) ha hkw hall hks hdb he hpl) low_callK
theorem pd_callK0 (F : FnD X.prog X.w X.K X.mg X.base k f fd ps sp) (hr : Room k X.A) (hm : X.mg x = some (.ref f)) (hk : PySem.W.keepIn X.K (.ref f) = true) (hb : KBinds X.K fd ps ks (pickK n m idx) (pickK n m idx)) (tk_ : Takes X W) (hkw : PDK X W kws tk) (hg : Gl X x := by rfl)
    (hall : (backToKw pos (keywordEach kws X.env)).all (·.1.isSome) = true := by rfl) (hks : (backToKw pos (keywordEach kws X.env)).filterMap (·.1) = ks := by rfl) (hdb : (x == ("__debug__" : Str)) = false := by decide)
    (hpl : ((backTo pos (starEach [] X.env)).any (·.1) || (backToKw pos (keywordEach kws X.env)).any (·.1.isNone)) = false := by rfl) :
    PD X W (.Call (.Name x p) [] kws pos) (dCallK sp n m idx dNil tk) := PE.imp (pe_callKS0 F hr hg hm hk hb (fun σ => passAt tk_ σ) hkw hall hks hdb hpl) fun σ H Q h => by
  obtain ⟨Z, ρ, x, G, Qd, sr, hr, h, c, xo⟩ := low_callK σ H Q h
  exact c [] [] G H (Fr.refl G H) hr .nil h
end

/-! ### is True, is not True -/
def rdIsB : RD2 := fun z y G Q => ∃ a b : Bool, z = .bl a ∧ y = .bl b ∧ Q (.bl (a == b)) G
def rdNotB : RD2 := fun z y G Q => ∃ a b : Bool, z = .bl a ∧ y = .bl b ∧ Q (.bl (!(a == b))) G
theorem opl_isB {K : PySem.W.Frag} : OpL K rIsB rdIsB := by
  rintro Z z y vz vy G H Qd Q hr dz dy ⟨a, b, rfl, rfl, q⟩ c
  cases dz; cases dy
  refine ⟨a, b, rfl, rfl, ?_⟩
  have e : decide (a = b) = (a == b) := by cases a <;> cases b <;> rfl
  rw [e]; exact Ret.bl c hr q
theorem opl_notB {K : PySem.W.Frag} : OpL K rNotB rdNotB := by
  rintro Z z y vz vy G H Qd Q hr dz dy ⟨a, b, rfl, rfl, q⟩ c
  cases dz; cases dy
  refine ⟨a, b, rfl, rfl, ?_⟩
  have e : decide (a = b) = (a == b) := by cases a <;> cases b <;> rfl
  rw [e]; exact Ret.bl c hr q
/-! ### -x -/
def dNeg (a : DE) : DE := fun ρ x G Q => a ρ x G fun z G1 => ∃ i, z = .int i ∧ Q (.int (-i)) G1
section
variable {X : Cx} {W : WX} {a e : Expr} {da : DE} {pos p1 p2 p3 : Pos} {k : Nat}
theorem pd_neg (ha : PD X W a da) : PD X W (.UnaryOp .USub a pos) (dNeg da) := PE.imp (pe_un un_neg ha) fun σ H Q ⟨Z, ρ, x, G, Qd, sr, hr, h, c, xo⟩ => ⟨Z, ρ, x, G, _, sr, hr, h, fun z v G1 H1 f1 r1 d1 ⟨i, e, q⟩ => by
  subst e
  cases d1
  exact ⟨i, rfl, c _ _ G1 H1 f1 r1 (.int _) q⟩, xo⟩
/-- a list from behind -/
def dRevL (a : DE) : DE := fun ρ x G Q => a ρ x G fun z G1 => ∃ xs, z = .lst xs ∧ Q (.lst xs.reverse) G1
theorem pd_revL (ha : PD X W e da) : PD X W (.Subscript e (.Slice none none (some (.UnaryOp .USub (.Constant (.int 1) k p1) p2)) p3) pos) (dRevL da) := PE.imp (pe_revL ha) fun σ H Q ⟨Z, ρ, x, G, Qd, sr, hr, h, c, xo⟩ => ⟨Z, ρ, x, G, _, sr, hr, h, fun z v G1 H1 f1 r1 d1 ⟨xs, e, q⟩ => by
  subst e
  cases d1 with
  | lst n1 g1 h1 z1 r2 =>
    exact ⟨_, _, rfl, SqL.of h1, fun p hp => Ret.lst (Ret.mono f1 c) r1 hp r2.reverse (by rw [List.length_reverse]; exact z1) q⟩, xo⟩
end
end TD
/-! # TD, 13: a tuple from behind; sorted(set(..)) -/
namespace TD
open PySem PySem.Spec PyProof.Rows L2

section
variable {prog : Program} {w : World} {A : Around} {E : Value → Shared → Prop} {s : Shared}
theorem adjust_back (n : Nat) : Builtin.Slice.sliceAdjust none none (-1) (n : Int) = ((n : Int) - 1, -1) := by
  unfold Builtin.Slice.sliceAdjust
  have h1 : ((-1 : Int) < 0) := by omega
  simp only [h1, if_true]
theorem places_back (n : Nat) : Builtin.Slice.slicePlaces ((n : Int) - 1) (-1) (-1) = n := by
  unfold Builtin.Slice.slicePlaces
  have h1 : ¬ ((-1 : Int) > 0) := by omega
  simp only [h1, if_false]
  split
  · rw [show (-(-1) : Int) = 1 by decide, Int.ediv_one]
    omega
  · omega
theorem sliceApplied_back {sl : Addr} {vl vu vs : Value} {n : Nat} {Q : Int × Int × Nat → Shared → Prop} (hs : s.heap.IsSliceOf sl vl vu vs) (pl : IsPart vl none) (pu : IsPart vu none) (ps : IsPart vs (some (-1)))
    (h : Q ((n : Int) - 1, -1, n) s) : wpAny (model prog w) A (Builtin.Slice.sliceApplied (.ref sl) (pure (n : Int))) Q E s := by
  obtain ⟨os, hos, hcs, hds⟩ := id hs
  unfold Builtin.Slice.sliceApplied Builtin.Slice.sliceFields
  refine wpAny_bind (wpAny_bind (wpAny_field hos hds (x := vl) rfl (wpAny_bind (wpAny_field hos hds (x := vu) rfl (wpAny_bind (wpAny_field hos hds (x := vs) rfl (wpAny_pure ?_)))))))
  refine wpAny_bind (HT.slicePart_ ps ?_)
  show wpAny _ _ (if ((-1 : Int) == 0) = true then _ else _) _ _ s
  rw [if_neg (by decide)]
  refine wpAny_bind (HT.slicePart_ pl (wpAny_bind (HT.slicePart_ pu (wpAny_bind (wpAny_pure ?_)))))
  show wpAny _ _ (match Builtin.Slice.sliceAdjust none none (-1) (n : Int) with | (lo, hi) => pure (lo, (-1 : Int), Builtin.Slice.slicePlaces lo hi (-1))) _ _ s
  rw [adjust_back n]
  show wpAny _ _ (pure ((n : Int) - 1, (-1 : Int), Builtin.Slice.slicePlaces ((n : Int) - 1) (-1) (-1))) _ _ s
  rw [places_back]
  exact wpAny_pure h
theorem fm_congr {α β : Type} {f g : α → Option β} : ∀ {l : List α}, (∀ x ∈ l, f x = g x) → l.filterMap f = l.filterMap g
  | [], _ => rfl
  | x :: l, h => by
    rw [List.filterMap_cons, List.filterMap_cons, h x List.mem_cons_self, fm_congr fun y hy => h y (List.mem_cons_of_mem _ hy)]
theorem pick_all {α : Type} : ∀ zs : List α, ((List.range zs.length).filterMap fun (m : Nat) => zs[m]?) = zs
  | [] => rfl
  | z :: zs => by
    rw [List.length_cons, List.range_succ_eq_map, List.filterMap_cons_some (b := z) (by simp), List.filterMap_map]
    have e : ((fun m => (z :: zs)[m]?) ∘ Nat.succ) = fun m => zs[m]? := by
      funext m
      simp
    rw [e, pick_all zs]
theorem pick_back {α : Type} (xs : List α) : ((List.range xs.length).filterMap fun (m : Nat) => xs[(((xs.length : Nat) : Int) - 1 + (m : Int) * (-1)).toNat]?) = xs.reverse := by
  have e : ((List.range xs.length).filterMap fun (m : Nat) => xs[(((xs.length : Nat) : Int) - 1 + (m : Int) * (-1)).toNat]?) = (List.range xs.length).filterMap fun (m : Nat) => xs.reverse[m]? := by
    refine fm_congr fun m hm => ?_
    have hm' := List.mem_range.mp hm
    have e1 : (((xs.length : Nat) : Int) - 1 + (m : Int) * (-1)).toNat = xs.length - 1 - m := by omega
    rw [e1, List.getElem?_reverse hm']
  rw [e]
  have := pick_all xs.reverse
  rw [List.length_reverse] at this
  exact this
theorem getItem_tuple_back {t sl : Addr} {its : List Value} {vl vu vs : Value} {Q : Value → Shared → Prop} (ht : IsTup s.heap t its.toArray) (hs : s.heap.IsSliceOf sl vl vu vs) (pl : IsPart vl none) (pu : IsPart vu none) (ps : IsPart vs (some (-1)))
    (h : Q (.ref s.heap.objs.size) { s with heap := s.heap.push { cls := .type "tuple", data := .seq its.reverse.toArray } }) (hsz : its.length ≤ sizeLine) : wpAny (model prog w) A (getItem (.ref t) (.ref sl)) Q E s := by
  have hok : sizeOk (.seq its.reverse.toArray) := by
    show its.reverse.toArray.size ≤ sizeLine
    rw [List.size_toArray, List.length_reverse]; exact hsz
  obtain ⟨os, hos, hcs, hds⟩ := id hs
  have isS : s.TypeIs (.ref sl) "slice" := ⟨os, hos, hcs⟩
  unfold getItem
  try with_reducible refine wpAny_holding ?_
  first | refine wpAny_bind (wpAny_pure ?_) | skip
  refine wpAny_bind (wpAny_sequenceKey ht.typeIs (by decide) (wpAny_bind (wpAny_callSpecial?_slot (name := Str.ofString "__getitem__") ht.typeIs PyProof.Rows.slot_tuple_getitem
    (wpAny_call_entry PyProof.Rows.slot_tuple_getitem ht.typeIs entry_tuple_getitem ?_ (args_tuple_getitem _ _)))))
  show wpAny _ _ (Builtin.Tuple.tupleItemsOf (.ref t) >>= _) _ _ s
  refine wpAny_bind (PyProof.Rows.tupleItemsOf_ ht (wpAny_bind (wpAny_typeOf isS ?_)))
  rw [if_pos (by decide)]
  refine wpAny_bind (sliceApplied_back hs pl pu ps ?_)
  show wpAny _ _ (if ((((its.toArray.size : Nat) : Int) - 1) == 0 && (-1 : Int) == 1 && its.toArray.size == its.toArray.size) = true then _ else _) _ _ s
  rw [if_neg (by rw [show ((-1 : Int) == 1) = false by decide, Bool.and_false, Bool.false_and]; exact Bool.false_ne_true)]
  have e : ((List.range its.toArray.size).filterMap fun (k : Nat) => its.toArray[(((its.toArray.size : Nat) : Int) - 1 + (k : Int) * (-1)).toNat]?).toArray = its.reverse.toArray := by
    have := pick_back its
    rw [List.size_toArray]
    congr 1
    rw [← this]
    refine fm_congr fun m _ => ?_
    rw [List.getElem?_toArray]
  rw [e]
  first
    | exact wpAny_bind (m := Builtin.Tuple.tupleExact _) (wpAny_newObj_type (wpAny_pure ⟨_, rfl, wpAny_pure h⟩) hok)
    | exact wpAny_bind (m := Builtin.Tuple.tupleExact _) (wpAny_newObj_type (wpAny_bind (wpAny_pure (wpAny_pure ⟨_, rfl, wpAny_pure h⟩))) hok)
    | exact wpAny_bind (wpAny_bind (m := Builtin.Tuple.tupleExact _) (wpAny_newObj_type (wpAny_pure (wpAny_pure ⟨_, rfl, wpAny_pure h⟩)) hok))
    | exact wpAny_bind (wpAny_bind (m := Builtin.Tuple.tupleExact _) (wpAny_newObj_type (wpAny_pure ⟨_, rfl, wpAny_pure h⟩) hok))
end
def tRevT (K : PySem.W.Frag) (te : TE) : TE := fun σ H Q => te σ H fun x H1 => ∃ a xs, x = .ref a ∧ SqT K H1 a xs ∧ ∀ p, H1 p = none → Q (.ref p) (upd H1 p (.tup xs.reverse))
section
variable {X : Cx} {W : WX}
theorem pe_revT {e : Expr} {te : TE} {k : Nat} {p1 p2 p3 pos : Pos} (he : PE X e te) : PE X (.Subscript e (.Slice none none (some (.UnaryOp .USub (.Constant (.int 1) k p1) p2)) p3) pos) (tRevT X.K te) := by
  refine ⟨fun pins s σ H Q I h => Subscript_ (thn (he.run pins s σ H _ I h) fun v s1 ⟨x, H1, I1, r1, a, xs, ex, hx, q⟩ => ?_)⟩
  subst ex
  cases r1
  have st1 : PO X (some (.UnaryOp .USub (.Constant (.int 1) k p1) p2)) (tPart (tUn (rU fun i => .int (-i)) (tC (.int 1)))) := po_some (pe_un un_neg pe_int)
  refine wpAny_Slice (thn (po_none.run pins s1 σ H1 (fun o H2 => o = none ∧ H2 = H1) I1 ⟨rfl, rfl⟩) fun vl s2 ⟨l, H2, I2, pl, el, e2⟩ => ?_)
  subst el e2
  refine thn (po_none.run pins s2 σ H2 (fun o H3 => o = none ∧ H3 = H2) I2 ⟨rfl, rfl⟩) fun vu s3 ⟨u, H3, I3, pu, eu, e3⟩ => ?_
  subst eu e3
  refine thn (st1.run pins s3 σ H3 (fun o H4 => o = some (-1) ∧ H4 = H3) I3 ⟨1, rfl, -1, rfl, rfl, rfl⟩) fun vs s4 ⟨o, H4, I4, ps, eo, e4⟩ => ?_
  subst eo e4
  have I5 : Inv X pins σ H4 { s4 with heap := s4.heap.push { cls := .type "slice", data := .fields #[vl, vu, vs] } } := I4.kept (t' := s4.toks) fun b ob q => Heap.get?_push_of_some _ q
  obtain ⟨its, r, ht, hz⟩ := I5.tuple hx
  have hlen := r.length
  show wpAny (model X.prog X.w) X.A (subscriptTail e (.Slice none none (some (.UnaryOp .USub (.Constant (.int 1) k p1) p2)) p3) (.ref a) (.ref s4.heap.objs.size)) (EP X pins σ Q) X.xe { s4 with heap := s4.heap.push { cls := .type "slice", data := .fields #[vl, vu, vs] } }
  refine tail_any (ops := [.ref a, .ref s4.heap.objs.size]) ht.typeIs (PyProof.Rows.slot_tuple_getitem.lookup) ?_ (by with_unfolding_all rfl)
  refine getItem_tuple_back ht (Heap.IsSliceOf.new _ vl vu vs) pl pu ps ?_ (by omega)
  refine ⟨.ref _, _, I5.laid (t' := s4.toks) (o := .tup xs.reverse) (fun b ob q => Heap.get?_push_of_some _ q) (Nat.le_refl _) ?_, rfl, q _ (I5.hok.fresh (Nat.le_refl _))⟩
  exact ⟨by rw [List.length_reverse]; exact hz, _, r.reverse, IsTup.new _ _⟩
def dRevT (a : DE) : DE := fun ρ x G Q => a ρ x G fun z G1 => ∃ xs, z = .tup xs ∧ Q (.tup xs.reverse) G1
theorem pd_revT {e : Expr} {da : DE} {k : Nat} {p1 p2 p3 pos : Pos} (ha : PD X W e da) : PD X W (.Subscript e (.Slice none none (some (.UnaryOp .USub (.Constant (.int 1) k p1) p2)) p3) pos) (dRevT da) := PE.imp (pe_revT ha) fun σ H Q ⟨Z, ρ, x, G, Qd, sr, hr, h, c, xo⟩ => ⟨Z, ρ, x, G, _, sr, hr, h, fun z v G1 H1 f1 r1 d1 ⟨xs, e, q⟩ => by
  subst e
  cases d1 with
  | tup n1 g1 h1 z1 r2 =>
    exact ⟨_, _, rfl, SqT.of h1, fun p hp => Ret.tup (Ret.mono f1 c) r1 hp r2.reverse (by rw [List.length_reverse]; exact z1) q⟩, xo⟩
end

/-! ### sorted(set(t)), t a tuple of ints -/
def rSetOfI (K : PySem.W.Frag) (w : World) : List V → Hp → VK → Prop := fun xs H Q => ∃ (p : Addr) (ns : List Int), xs = [.ref p] ∧ SqT K H p (ns.map V.int) ∧ ns.length ≤ 1000 ∧ ∀ a n, n ≤ ns.length → H a = none → Q (.ref a) (upd H a (SetO w a (fun j => decide (j ∈ ns)) n))
theorem cr_setOfI {X : Cx} (hc : X.calm = true) : CallR X (.type "set") (rSetOfI X.K X.w) := by
  intro pins s σ H vs us Q I r h
  obtain ⟨p, ns, rfl, hs, hl, q⟩ := h
  obtain ⟨its, rv, pt, _⟩ := I.tuple hs
  rw [Vals.ref1 r]
  refine call_set_tupI ns (I.ok.hd hc) (show s.heap.IsTuple p its.toArray from pt) (intsAre_of rv) (by unfold scanBound; omega) fun h' tk c R1 hcn k => ?_
  have hn : H s.heap.objs.size = none := I.hok.fresh (Nat.le_refl _)
  exact ⟨.ref _, _, I.laid (t' := tk) k (Nat.le_refl _) (setO_new R1), rfl, q _ c hcn hn⟩
/-- the ints of a tuple, ascending, each once -/
def dSortSet (a : DE) : DE := fun ρ x G Q => a ρ x G fun z G1 => ∃ ns : List Int, z = .tup (ns.map D.int) ∧ ns.length < 64 ∧ ∀ ms : List Int, ms.Pairwise (· < ·) → (∀ k, k ∈ ms ↔ k ∈ ns) → Q (.lst (ms.map D.int)) G1
section
variable {X : Cx} {W : WX} {e : Expr} {a : DE} {p p2 pos pos2 : Pos}
theorem pd_sortSet (hc : X.calm = true) (hm : X.mg "sorted" = none) (hm2 : X.mg "set" = none) (ha : PD X W e a) (hg : Gl X "sorted" := by rfl) (hg2 : Gl X "set" := by rfl)
    (hs : starEach [.Call (.Name "set" p2) [e] [] pos2] X.env = (false, eval (.Call (.Name "set" p2) [e] [] pos2) X.env) :: starEach [] X.env := by rfl) (hs2 : starEach [e] X.env = (false, eval e X.env) :: starEach [] X.env := by rfl) :
    PD X W (.Call (.Name "sorted" p) [.Call (.Name "set" p2) [e] [] pos2] [] pos) (dSortSet a) :=
  PE.imp (pe_callB (cr_sortedSet hc) hg hm (by decide +kernel) (pa_cons (pe_callTy (cr_setOfI hc) hg2 hm2 (by decide +kernel) (pa_cons ha pa_nil hs2) (by decide) (by decide) hs2 (by rfl)) pa_nil hs) (by decide) (by decide) hs (by rfl))
    fun σ H Q ⟨Z, ρ, x, G, Qd, sr, hr, h, c, xo⟩ => ⟨Z, ρ, x, G, _, sr, hr, h, fun z v G1 H1 f1 r1 d1 ⟨ns, ez, hl, q⟩ => by
      subst ez
      cases d1 with
      | tup n1 g1 h1 z1 r2 =>
        rename_i ad vs
        have e1 : vs = ns.map V.int := r2.ints
        subst e1
        refine ⟨ad, ns, rfl, SqT.of h1, by omega, fun b n hn hb => ⟨b, _, n, rfl, upd_same, by omega, fun ms q' hp hm hlen hq' => ?_⟩⟩
        have f2 : Fr G1 H1 G1 (upd H1 b (SetO X.w b (fun j => decide (j ∈ ns)) n)) := Fr.new hb
        have r3 := r1.new (o := SetO X.w b (fun j => decide (j ∈ ns)) n) hb
        exact Ret.lst (Ret.mono (f1.trans f2) c) r3 hq' (DVs.of_ints ms) (by rw [List.length_map, hlen, sizeLine_eq]; omega) (q ms hp fun k => by rw [hm k, decide_eq_true_eq]), xo⟩
end
end TD
/-! # TD, 14: the head's facts -/
namespace ErrX
open PySem PySem.W PySem.Calls PyProof.Rows PySem.HandSPX
open He (ba eqO eqO_ok ga ma)
def clsB (K : Frag) (C : Addr) : Bool := match K.lookup C with
  | some ⟨.type t, _, .cls cd, sl⟩ => decide (t = "type") && (cd.hasDict && (!cd.hasDel && (match cd.mro, sl.toList with
    | .ref C' :: bm, [_, _, _, _, some (.builtin n), _] => decide (C' = C) && (decide (n = "ValueError.__new__") && (refsVE bm && eqO (alongIn K "__init__" bm) (some (some (.builtin "ValueError.__init__")))))
    | _, _ => false)))
  | _ => false
theorem clsB_ok {K : Frag} {C : Addr} (h : clsB K C = true) : ∃ nm q N bs bm sn sub ab col dd k0 k1 k2 k3 k5, K.lookup C = some (excClassObj nm q C N bs bm true sn sub ab col dd k0 k1 k2 k3 k5 "ValueError.__new__") ∧ refsVE bm = true ∧ alongIn K "__init__" bm = some (some (.builtin "ValueError.__init__")) := by
  unfold clsB at h
  split at h
  · rename_i t dd cd sl hl
    obtain ⟨h1, h⟩ := ba h
    obtain ⟨h2, h⟩ := ba h
    obtain ⟨h3, h⟩ := ba h
    split at h
    · rename_i C' bm k0 k1 k2 k3 n k5 hm hs
      obtain ⟨h4, h⟩ := ba h
      obtain ⟨h5, h⟩ := ba h
      obtain ⟨h6, h7⟩ := ba h
      obtain rfl := of_decide_eq_true h1
      obtain rfl := of_decide_eq_true h4
      obtain rfl := of_decide_eq_true h5
      obtain ⟨nm, bs, mro, ns, qn, hd, sn, sub, ab, col, del⟩ := cd
      dsimp only at hm h2 h3
      subst hm h2
      obtain rfl : del = false := by cases del <;> first | rfl | cases h3
      obtain ⟨l⟩ := sl
      simp only at hs
      subst hs
      exact ⟨nm, qn, ns, bs, bm, sn, sub, ab, col, dd, k0, k1, k2, k3, k5, hl, h6, eqO_ok h7⟩
    · cases h
  · cases h
def bodyB (f : Str) : FuncBody → Bool
  | .stmts [.Expr (.Call (.Attribute (.Call (.Name s _) [] [] _) i p2) [.Name f1 _] [] p4) _, .Assign [.Attribute (.Name sf _) f2 _] (.Name f3 _) _] =>
    decide (s = "super") && (decide (i = "__init__") && (decide (f1 = f) && (decide (sf = "self") && (decide (f2 = f) && (decide (f3 = f) && (p2.endLine == p4.line))))))
  | _ => false
theorem bodyB_ok {f : Str} {b : FuncBody} (h : bodyB f b = true) : ∃ r0 r1 r2 r3 r4 r5 q1 q2 q3 q4, b = .stmts (iB f r0 r1 r2 r3 r4 r5 q1 q2 q3 q4) ∧ (r2.endLine == r4.line) = true := by
  unfold bodyB at h
  split at h
  · rename_i s r0 r1 i p2 f1 r3 p4 r5 sf q1 f2 q2 f3 q3 q4
    obtain ⟨h1, h⟩ := ba h
    obtain ⟨h2, h⟩ := ba h
    obtain ⟨h3, h⟩ := ba h
    obtain ⟨h4, h⟩ := ba h
    obtain ⟨h5, h⟩ := ba h
    obtain ⟨h6, h7⟩ := ba h
    obtain rfl := of_decide_eq_true h1
    obtain rfl := of_decide_eq_true h2
    obtain rfl := of_decide_eq_true h3
    obtain rfl := of_decide_eq_true h4
    obtain rfl := of_decide_eq_true h5
    obtain rfl := of_decide_eq_true h6
    exact ⟨_, _, _, _, _, _, _, _, _, _, rfl, h7⟩
  · cases h
def parB (f : Str) : Arguments → Bool
  | ⟨[], [⟨a, none, _⟩, ⟨b, none, _⟩], none, [], [], none, []⟩ => decide (a = "self") && decide (b = f)
  | _ => false
theorem parB_ok {f : Str} {a : Arguments} (h : parB f a = true) : ∃ p1 p2, a = iA f p1 p2 := by
  unfold parB at h
  split at h
  · rename_i a p1 b p2
    obtain ⟨h1, h2⟩ := ba h
    obtain rfl := of_decide_eq_true h1
    obtain rfl := of_decide_eq_true h2
    exact ⟨_, _, rfl⟩
  · cases h
def scB (f : Str) : Scope → Bool
  | ⟨.function, [(a, .local), (b, .local), (c, .free), (d, .globalImplicit)], false, false, []⟩ => decide (a = "self") && (decide (b = f) && (decide (c = "__class__") && decide (d = "super")))
  | _ => false
theorem scB_ok {f : Str} {s : Scope} (h : scB f s = true) : s = iS f := by
  unfold scB at h
  split at h
  · obtain ⟨h1, h⟩ := ba h
    obtain ⟨h2, h⟩ := ba h
    obtain ⟨h3, h4⟩ := ba h
    obtain rfl := of_decide_eq_true h1
    obtain rfl := of_decide_eq_true h2
    obtain rfl := of_decide_eq_true h3
    obtain rfl := of_decide_eq_true h4
    rfl
  · cases h
def fnB (P : Program) (K : Frag) (ef : EF) (C fI : Addr) : Bool := match K.lookup fI with
  | some ⟨_, _, .func ⟨nm, q, pa, bd, sc, gl, [(k, cc)], .none, .none, _, _, _, .ref cda, _, bl⟩, _⟩ =>
    decide (nm = "__init__") && (decide (q = ef.qual) && (parB ef.fld pa && (bodyB ef.fld bd && (scB ef.fld sc && (decide (gl = mainGlobals) && (decide (k = "__class__") && (decide (bl = builtinsNs) && (codeIn K (.ref cda) ef.qual &&
      ((match K.lookup cda with
        | some ⟨_, _, .fields vs, _⟩ => (match (vs[2]? : Option Value) with
          | some (.str file _) => ((P.main.file : Str) == file)
          | _ => false)
        | _ => false) &&
      (match K.lookup cc with
        | some ⟨_, _, .cell (some (.ref C')), _⟩ => decide (C' = C)
        | _ => false))))))))))
  | _ => false
theorem fnB_ok {P : Program} {K : Frag} {ef : EF} {C fI : Addr} (h : fnB P K ef C fI = true) : ∃ (oc : Value) (od : Option Addr) (doc pm : Value) (an : Option Addr) (cda : Addr) (ct : Value) (cc : Addr) (osl : Array (Option Value)) (p1 p2 r0 r1 r2 r3 r4 r5 q1 q2 q3 q4 : Pos),
    K.lookup fI = some ⟨oc, od, .func (ksFn "__init__" ef.qual (iA ef.fld p1 p2) (iB ef.fld r0 r1 r2 r3 r4 r5 q1 q2 q3 q4) (iS ef.fld) .none .none doc pm an (.ref cda) ct cc), osl⟩ ∧ codeIn K (.ref cda) ef.qual = true ∧ (r2.endLine == r4.line) = true ∧
    (∃ ccl cdd vs ccs file tf, K.lookup cda = some ⟨ccl, cdd, .fields vs, ccs⟩ ∧ vs[2]? = some (.str file tf) ∧ ((P.main.file : Str) == file) = true) ∧
    ∃ cl cld csl, K.lookup cc = some ⟨cl, cld, .cell (some (.ref C)), csl⟩ := by
  unfold fnB at h
  split at h
  · rename_i oc od nm q pa bd sc gl k cc doc pm an cda ct bl osl hl
    obtain ⟨h1, h⟩ := ba h
    obtain ⟨h2, h⟩ := ba h
    obtain ⟨h3, h⟩ := ba h
    obtain ⟨h4, h⟩ := ba h
    obtain ⟨h5, h⟩ := ba h
    obtain ⟨h6, h⟩ := ba h
    obtain ⟨h7, h⟩ := ba h
    obtain ⟨h8, h⟩ := ba h
    obtain ⟨h9, h⟩ := ba h
    obtain ⟨h10, h11⟩ := ba h
    obtain rfl := of_decide_eq_true h1
    obtain rfl := of_decide_eq_true h2
    obtain ⟨p1, p2, rfl⟩ := parB_ok h3
    obtain ⟨r0, r1, r2, r3, r4, r5, q1, q2, q3, q4, rfl, hline⟩ := bodyB_ok h4
    obtain rfl := scB_ok h5
    obtain rfl := of_decide_eq_true h6
    obtain rfl := of_decide_eq_true h7
    obtain rfl := of_decide_eq_true h8
    refine ⟨oc, od, doc, pm, an, cda, ct, cc, osl, p1, p2, r0, r1, r2, r3, r4, r5, q1, q2, q3, q4, hl, h9, hline, ?_, ?_⟩
    · split at h10
      · rename_i ccl cdd vs ccs hc
        split at h10
        · rename_i file tf hv
          exact ⟨_, _, vs, _, file, tf, hc, hv, h10⟩
        · cases h10
      · cases h10
    · split at h11
      · rename_i cl cld C' csl hc
        obtain rfl := of_decide_eq_true h11
        exact ⟨_, _, _, hc⟩
      · cases h11
  · cases h
/-- all that Txt asks, but the names of the module -/
def errB (P : Program) (ef : EF) (K : Frag) : Bool :=
  let C := ga K ef.cls
  let fI := ma K C "__init__"
  eqO (nsIn K mainGlobals ef.cls) (some (some (.ref C))) && (eqO (nsIn K mainGlobals "super") (some none) && (!(P.main.scope.names.lookup ("super" : Str)).isSome && (clsB K C && (eqO (findIn K (.ref C) "__setattr__") (some (some (.builtin "object.__setattr__"))) &&
  (eqO (findIn K (.ref C) "__getattribute__") (some (some (.builtin "BaseException.__getattribute__"))) && (eqO (findIn K (.ref C) "__getattr__") (some none) && (eqO (findIn K (.ref C) ef.fld) (some none) && (eqO (findIn K (.ref C) "__init__") (some (some (.ref fI))) &&
  (decide (typeIn K (.ref fI) = some (.type "function")) && (keepIn K (.ref C) && (decide (subIn K (.ref C) (.type "BaseException") = some true) && (decide (subIn K (.ref C) (.type "ValueError") = some true) && (decide (mroIn K C (.ref C) = some true) &&
  (decide (typeIn K (.ref C) = some (.type "type")) && (hasDictIn K C && (decide (exmOne K (.ref C) (.ref C) = some true) && (eqO (nsIn K cStatics "thirdparty.any") (some none) && fnB P K ef C fI)))))))))))))))))
theorem errB_ok {P : Program} {ef : EF} {K : Frag} {h : Heap} {mg : Str → Option Value} (X : K.In h) (G : h.Ns mainGlobals mg) (c : errB P ef K = true) : Txt P K mg ef (ga K ef.cls) (ma K (ga K ef.cls) "__init__") := by
  unfold errB at c
  obtain ⟨c1, c⟩ := ba c
  obtain ⟨c2, c⟩ := ba c
  obtain ⟨c3, c⟩ := ba c
  obtain ⟨c4, c⟩ := ba c
  obtain ⟨c5, c⟩ := ba c
  obtain ⟨c6, c⟩ := ba c
  obtain ⟨c7, c⟩ := ba c
  obtain ⟨c8, c⟩ := ba c
  obtain ⟨c9, c⟩ := ba c
  obtain ⟨c10, c⟩ := ba c
  obtain ⟨c11, c⟩ := ba c
  obtain ⟨c12, c⟩ := ba c
  obtain ⟨c13, c⟩ := ba c
  obtain ⟨c14, c⟩ := ba c
  obtain ⟨c15, c⟩ := ba c
  obtain ⟨c16, c⟩ := ba c
  obtain ⟨c17, c⟩ := ba c
  obtain ⟨c18, c19⟩ := ba c
  exact { gC := mg_of X G (eqO_ok c1), gS := mg_none_of X G (eqO_ok c2), top := by simpa using c3, cls := clsB_ok c4, sa := eqO_ok c5, ga := eqO_ok c6, gg := eqO_ok c7, noN := eqO_ok c8, iC := eqO_ok c9, tC := of_decide_eq_true c10, kC := c11, exC := of_decide_eq_true c12, veC := of_decide_eq_true c13, slf := of_decide_eq_true c14, tyC := of_decide_eq_true c15, hdC := c16, te := of_decide_eq_true c17, op := eqO_ok c18, fn := fnB_ok c19 }
end ErrX

namespace HeY
open PySem PySem.Spec PyProof.Rows L2 He
/-- what the module's names reach, and the model's own statics -/
def asY (g : Addr → Option Obj) (n : Nat) : List Addr := asD g n ++ [PySem.cStatics]
def obsY (n : Nat) (fa : List Fa) (fn : List DefD) (tf : List Defn) (ex : PySem.W.Frag → Bool) (g : Addr → Option Obj) : AlX := (obsT fa fn [] (frT g (asY g n)), ex (frT g (asY g n)) && tabsB g tf (frT g (asY g n)))
theorem saysY_of {n : Nat} {fa : List Fa} {fn : List DefD} {tf : List Defn} {ex : PySem.W.Frag → Bool} {w : World} {h : Heap} (e : obsY n fa fn tf ex h.get? = valX fn [] w) : SaysX fa fn [] tf ex w h (frT h.get? (asY h.get? n)) := by
  have e1 : obsT fa fn [] (frT h.get? (asY h.get? n)) = valT fn [] w := congrArg (fun z : AlX => z.1) e
  obtain ⟨h1, h2⟩ := ba (show (ex (frT h.get? (asY h.get? n)) && tabsB h.get? tf (frT h.get? (asY h.get? n))) = true from congrArg (fun z : AlX => z.2) e)
  have key : ∀ p ∈ tf, PySem.W.codeHdIn (frT h.get? (asY h.get? n)) (cT (frT h.get? (asY h.get? n)) p).1 (cT (frT h.get? (asY h.get? n)) p).2 = true ∧ ∃ o, h.get? (cT (frT h.get? (asY h.get? n)) p).2 = some o ∧ emptyTab o = true := by
    intro p hp
    obtain ⟨h3, h4⟩ := ba (List.all_eq_true.mp h2 p hp)
    refine ⟨h3, ?_⟩
    cases q : h.get? (cT (frT h.get? (asY h.get? n)) p).2 with
    | none => rw [q] at h4; cases h4
    | some o => rw [q] at h4; exact ⟨o, rfl, h4⟩
  refine ⟨e1, h1, fun p hp => (key p hp).1, fun p hp => ?_, fun p hp => ?_⟩
  · obtain ⟨_, o, q, z⟩ := key p hp
    exact frT_none q z
  · obtain ⟨_, o, q, z⟩ := key p hp
    rw [q, emptyTab_eq z]
def hookY (n : Nat) (fa : List Fa) (fn : List DefD) (tf : List Defn) (ex : PySem.W.Frag → Bool) : PySem.W.Hook where
  α := AlX
  obs := fun s => obsY n fa fn tf ex s.heap.get?
  val := fun w => valX fn [] w
  says := fun w h => ∃ K : PySem.W.Frag, K.In h ∧ SaysX fa fn [] tf ex w h K
  of := fun _ _ e => ⟨_, frT_in, saysY_of e⟩
  keeps := fun _ _ _ ⟨K, hK, c⟩ k => ⟨K, PySem.W.Frag.In.keeps hK k, ⟨c.t, c.more, c.hd, c.out, fun p hp => k _ _ (c.empty p hp)⟩⟩
theorem obsY_eq {n : Nat} {fa : List Fa} {fn : List DefD} {tf : List Defn} {ex : PySem.W.Frag → Bool} {g : Addr → Option Obj} {s : Shared} (h : ∀ a, g a = s.heap.get? a) : obsY n fa fn tf ex g = (hookY n fa fn tf ex).obs s := by
  have e : g = s.heap.get? := funext h
  rw [e] <;> rfl
end HeY
/-! # TD, 15: defs of the module by name -/
namespace TD
open PySem PySem.Spec PyProof.Rows L2
theorem fun_of {K : PySem.W.Frag} {x q : Str} {st : Stmt} {kws : List (Str × V)} {f : Addr} {fd : FuncData} (F : FunD K x q (defArgs st) (defBody st) (defScope st) [] kws f fd) : Fun K x q st f fd := by
  obtain ⟨oc, od, dV, kV, doc, pm, an, cdv, ct, osl, e, lk, hcd, hd, _⟩ := F.ex
  rcases hd with ⟨_, hd⟩ | ⟨hd, _⟩
  · subst hd
    exact ⟨⟨oc, od, kV, doc, pm, an, cdv, ct, osl, e, lk, hcd⟩, F.kp⟩
  · exact absurd rfl hd
/-- a def of the module -/
structure Fn (K : PySem.W.Frag) (mg : Str → Option Value) (x : Str) (st : Stmt) (ps : List Str) where
  f : Addr
  fd : FuncData
  F : Fun K x x st f fd
  g : mg x = some (.ref f)
  b : Binds K fd ps []
section
variable {P : Program} {w : World} {K : PySem.W.Frag} {mg : Str → Option Value} {base : Heap}
theorem Fn.of {x : Str} {st : Stmt} {ps : List Str} {f : Addr} {fd : FuncData} (F : FunD K x x (defArgs st) (defBody st) (defScope st) [] [] f fd) (g : mg x = some (.ref f))
    (h : ∀ (kV doc pm : Value) (an : Option Addr) (cdv ct : Value) (us : List Value), us.length = ps.length → bindArgs (PySem.W.fnOf x x (defArgs st) (defBody st) (defScope st) .none kV doc pm an cdv ct) ⟨us, []⟩ = pure (ps.zip us)) : Nonempty (Fn K mg x st ps) :=
  ⟨⟨f, fd, fun_of F, g, (fun_of F).binds h⟩⟩
/-- THE RULE for a def whose code object is known -/
theorem fnDc {x : Str} {st : Stmt} {N ps : List Str} {k : Nat} {sp : SpD} {ds : DS} (T : Fn K mg x st ps) {c : Addr} (hc : T.fd.code = .ref c) (S : FnScope N ps (defScope st)) (len : ∀ zs G Q x, sp zs G Q x → zs.length = ps.length)
    (der : ∀ (A : Around) (outer : List Env) (s : Shared) (H : Hp) (E : XK), Room k (A.deeper (envOfC x (defScope st) s.heap.objs.size T.f (.ref c))) →
      Takes (cxOf (L2.CX P w) P w K mg base N x (defScope st) T.f (.ref c) A outer s H E) (fun c d _ H' => E c d H') →
      PDSs (cxOf (L2.CX P w) P w K mg base N x (defScope st) T.f (.ref c) A outer s H E) (fun c d _ H' => E c d H') (defBody st) ds)
    (read : ∀ (zs : List D) (G : GH) (Q : DK) (x : XD), sp zs G Q x → ds { nx := fun _ G' => Q .non G', rt := Q, xx := fun _ => x } (dstart N zs) G) : FnD P w K mg base (k + 1) T.f T.fd ps sp := by
  obtain ⟨oc, od, kV, doc, pm, an, cdv, ct, osl, e, lk, hcd⟩ := T.F.ex
  obtain rfl : cdv = .ref c := by rw [e] at hc; exact hc
  rw [e] at lk ⊢
  refine L2.fn_of lk hcd S (fun vs H Q E ⟨Z, zs, G, Qd, x, dv, hr, h, c, xo⟩ => by rw [← dv.length]; exact len zs G Qd x h) fun A outer s H vs Q E hroom ⟨Z, zs, G, Qd, x, dv, hr, h, c, xo⟩ => ?_
  refine ⟨_, der A outer s H E hroom (takes_of rfl rfl rfl rfl), Z, dstart N zs, G, _, sr_start dv, hr, read zs G Qd x h, ?_⟩
  exact ⟨fun ρ' σ' G' H' f' r' s' q' => c .non .non G' H' f' r' .non q', fun z v G' H' f' r' d' q' => c z v G' H' f' r' d' q', fun _ _ _ _ _ _ _ q => q.elim, fun _ _ _ _ _ _ _ q => q.elim, fun ρ' σ' G' H' f' s' => xo.mono f'⟩
theorem fnDn {x : Str} {st : Stmt} {N ps : List Str} {k : Nat} {sp : SpD} {ds : DS} (T : Fn K mg x st ps) (S : FnScope N ps (defScope st)) (len : ∀ zs G Q x, sp zs G Q x → zs.length = ps.length)
    (der : ∀ (cdv : Value) (A : Around) (outer : List Env) (s : Shared) (H : Hp) (E : XK), Room k (A.deeper (envOfC x (defScope st) s.heap.objs.size T.f cdv)) →
      Takes (cxOf (L2.CX P w) P w K mg base N x (defScope st) T.f cdv A outer s H E) (fun c d _ H' => E c d H') →
      PDSs (cxOf (L2.CX P w) P w K mg base N x (defScope st) T.f cdv A outer s H E) (fun c d _ H' => E c d H') (defBody st) ds)
    (read : ∀ (zs : List D) (G : GH) (Q : DK) (x : XD), sp zs G Q x → ds { nx := fun _ G' => Q .non G', rt := Q, xx := fun _ => x } (dstart N zs) G) : FnD P w K mg base (k + 1) T.f T.fd ps sp := fnD T.F S len der read
/-- a def by its place in the head's list -/
theorem fn_at {fa : List He.Fa} {fn : List He.DefD} {h : Heap} {x : Str} {st : Stmt} {ps : List Str} (X : K.In h) (G : h.Ns mainGlobals mg) (c : He.SaysD fa fn K) (i j : Nat) (hi : fn[i]? = some ⟨(x, none), x, x, defArgs st, defBody st, defScope st, [], []⟩) (hj : fa[j]? = some (.glo x))
    (hb : ∀ (kV doc pm : Value) (an : Option Addr) (cdv ct : Value) (us : List Value), us.length = ps.length → bindArgs (PySem.W.fnOf x x (defArgs st) (defBody st) (defScope st) .none kV doc pm an cdv ct) ⟨us, []⟩ = pure (ps.zip us)) : Nonempty (Fn K mg x st ps) := by
  obtain ⟨fd, F⟩ := c.def_ i hi
  exact Fn.of (show FunD K x x (defArgs st) (defBody st) (defScope st) [] [] (He.ga K x) fd from F) (He.glo_ok X G (c.fact j hj)) hb
end
/-! ### the lambda's taker by name -/
section
variable {X : Cx} {W : WX}
theorem pd_lamF {TT : (XK → Hp → VK → Prop) → Hp → VK → Prop} {b d : DE} {x a : Str} {st : Stmt} {c P : Addr} {k : Nat} {Ng : List Str} {params : Arguments} {body : Expr} {scope : Scope} {p lpos pos : Pos} (R : Fn X.K X.mg x st [a])
    (hl : ∀ σ H Q, lowE X.K W d σ H Q → tLamP P (X.env.qual ++ "<lambda>") TT (fun E => lowE X.K (fun c d _ H' => E c d H') b) σ H Q) (hg : Gl X x) (Sg : FnScope Ng [a] (defScope st)) (hNg : Ng[0]? = some a) (hva : Vis (defScope st) a)
    (hG : ∀ cdv, LamX.GivesTo X Ng x (defScope st) R.f cdv (defBody st) a (X.env.qual ++ "<lambda>") TT)
    (TB : LamX.TabB X.base X.mg c P) (hcode : X.env.code = .ref c) (hr : Room (k + 2) X.A) (L : LamX.LamS X.env.scope scope) (hdef : defaultsOf params X.env = ([], []))
    (hbind : ∀ (q : Str) (cl : List (Str × Addr)) (pm cv ctv : Value), bindArgs (PySem.W.kla_fn "<lambda>" q params body scope cl pm cv ctv) ⟨[], []⟩ = pure [])
    (hdb : (x == ("__debug__" : Str)) = false) (hd : (a == ("__debug__" : Str)) = false) (hcd : (a == ("__classdict__" : Str)) = false)
    (hbody : ∀ (A : Around) (outer : List Env) (s : Shared) (H : Hp) (E : XK) (f c' : Addr), Room k (A.deeper (LamX.lamEnv X scope s.heap.objs.size f c')) → Takes (LamX.lamCx X A outer s H E scope f c') (fun c d _ H' => E c d H') → PD (LamX.lamCx X A outer s H E scope f c') (fun c d _ H' => E c d H') body b) :
    PD X W (.Call (.Name x p) [.Lambda params body scope lpos] [] pos) d := by
  obtain ⟨oc, od, kV, doc, pm, an, cdv, ct, osl, e, lk, hcg⟩ := R.F.ex
  rw [e] at lk
  exact pd_lam hl hg R.g R.F.kp lk hcg (e ▸ R.b) Sg hNg hva (hG cdv) TB hcode hr L hdef hbind hbody hdb hd hcd
end
end TD
/-! # TD, 16: ranges with a step, dict.get, walks over dicts, dicts of tuple keys, list of a range, sorted(set(list)), three names at once -/
namespace TD
open PySem PySem.Spec PyProof.Rows L2
/-! ### range(a, b, c) -/
def rngC (lo c : Int) (n : Nat) : List D := (List.range n).map fun i => D.int (lo + (i : Nat) * c)
theorem it_rangeC {K : PySem.W.Frag} {Z : Addr → Prop} {lo c : Int} {n : Nat} {G0 : GH} {H0 : Hp} (hz : n ≤ sizeLine) : ItOk K Z (Itc lo c n) (rngC lo c n) G0 H0 (fun _ => True) := by
  have len : (rngC lo c n).length = n := by unfold rngC; rw [List.length_map, List.length_range]
  refine ⟨by rw [len]; exact hz, fun Z' i G H up f r gd hi => by rw [len] at hi; exact hi, fun Z' G H up f r gd => by rw [len]; exact Nat.le_refl _, fun Z' i G H x H' up f r gd hi y => ?_⟩
  obtain ⟨e1, e2⟩ := y
  subst e1 e2
  rw [len] at hi
  exact ⟨_, by unfold rngC; rw [List.getElem?_map, List.getElem?_range hi] <;> rfl, Fr.refl _ _, r, .int _⟩
def dIRng3 (t : DA) : DI := fun ρ x G R => t ρ x G fun zs G1 => ∃ (i j c : Int) (n : Nat), zs = [.int i, .int j, .int c] ∧ RgC i j c n ∧ n ≤ sizeLine ∧ R (rngC i c n) (fun _ => True) G1
theorem DVs.three {K : PySem.W.Frag} {Z : Addr → Prop} {G : GH} {H : Hp} {a b c : D} {vs : List V} (h : DVs K Z G H [a, b, c] vs) : ∃ u v w, vs = [u, v, w] ∧ DV K Z G H a u ∧ DV K Z G H b v ∧ DV K Z G H c w := by
  cases h with
  | cons d1 r =>
    obtain ⟨v, w, rfl, d2, d3⟩ := r.two
    exact ⟨_, _, _, rfl, d1, d2, d3⟩
section
variable {X : Cx} {W : WX} {tg e e1 e2 e3 : Expr} {a b d : DE} {t : DA} {p pos tpos : Pos}
theorem pdi_range3 (hm : X.mg "range" = none) (ha : PDA X W [e1, e2, e3] t) (hg : Gl X "range" := by rfl) (hs : starEach [e1, e2, e3] X.env = (false, eval e1 X.env) :: starEach [e2, e3] X.env := by rfl)
    (hpl : (backTo pos (starEach [e2, e3] X.env)).any (·.1) = false := by rfl) :
    PDI X W tg (.Call (.Name "range" p) [e1, e2, e3] [] pos) (dIRng3 t) := PI.imp (pi_range3 hg hm ha hs hpl) fun σ H R ⟨Z, ρ, x, G, Qd, sr, hr, h, c, xo⟩ => ⟨Z, ρ, x, G, _, sr, hr, h, fun zs vs G1 H1 f1 r1 d1 ⟨i, j, k, n, ez, h1, h2, q⟩ => by
  subst ez
  obtain ⟨v, u, w, rfl, dz, dy, dw⟩ := d1.three
  cases dz
  cases dy
  cases dw
  exact ⟨i, j, k, n, rfl, h1, c _ _ G1 H1 _ f1 r1 (it_rangeC h2) q⟩, xo⟩
/-! ### d.get(k, z) -/
def dGet2 (a b c : DE) : DE := fun ρ x G Q => a ρ x G fun l G1 => ∃ p, l = .ref p ∧ (∃ kvs, DAt G1 p kvs) ∧ b ρ x G1 fun y G2 => c ρ x G2 fun z G3 => ∃ k kvs, y = kD k ∧ DAt G3 p kvs ∧ Q ((valD kvs k).getD z) G3
theorem pd_get2 {o f : Expr} {apos : Pos} {do_ de df : DE} (hu : X.A.units + 64 < cLine) (ho : PD X W o do_) (he : PD X W e de) (hf : PD X W f df) (m : M2 X o "get" apos e f pos := by exact ⟨by rfl, by rfl, by rfl, by rfl⟩) :
    PD X W (.Call (.Attribute o "get" apos) [e, f] [] pos) (dGet2 do_ de df) := PE.imp (pe_dget2 (by omega) ho he hf m) fun σ H Q ⟨Z, ρ, x, G, Qd, sr, hr, h, c, xo⟩ =>
  ⟨Z, ρ, x, G, _, sr, hr, h, fun l lv G1 H1 f1 r1 d1 ⟨p, el, ⟨kvs0, g0⟩, q1⟩ => by
    subst el
    cases d1
    obtain ⟨ks0, hd0, _⟩ := g0.rd r1
    refine ⟨p, rfl, .inl ⟨ks0, hd0⟩, Z, ρ, x, G1, _, sr.mono f1, r1, q1, fun y yv G2 H2 f2 r2 d2 q2 => ⟨Z, ρ, x, G2, _, sr.mono (f1.trans f2), r2, q2, fun z zv G3 H3 f3 r3 d3 ⟨k, kvs, ey, g, q⟩ => ?_, xo.mono (f1.trans f2)⟩, xo.mono f1⟩
    subst ey
    obtain rfl := kD_V d2
    obtain ⟨ks, hd, pr⟩ := g.rd r3
    have f4 := f1.trans (f2.trans f3)
    cases e : valD kvs k with
    | none =>
      rw [e] at q
      exact ⟨none, .inl ⟨ks, k, hd, rfl, (pr.noval e).symm⟩, c z zv G3 H3 f4 r3 d3 q⟩
    | some dd =>
      rw [e] at q
      obtain ⟨v, hv, dv⟩ := pr.val e
      exact ⟨some v, .inl ⟨ks, k, hd, rfl, hv.symm⟩, c dd v G3 H3 f4 r3 dv q⟩, xo⟩
/-! ### for k in d -/
theorem PairD.getV {K : PySem.W.Frag} {Z : Addr → Prop} {G : GH} {H : Hp} {κ : Type} {k : κ} {v : V} : ∀ {l : List (κ × D)} {m : List (κ × V)} {i : Nat}, PairD K Z G H l m → m[i]? = some (k, v) → ∃ d, l[i]? = some (k, d) ∧ DV K Z G H d v
  | _, _, _, .nil, h => by simp at h
  | p :: l, q :: m, 0, .cons a b, h => by
    simp only [List.getElem?_cons_zero, Option.some.injEq] at h
    subst h
    refine ⟨p.2, ?_, a.2⟩
    rw [List.getElem?_cons_zero]
    exact congrArg some (Prod.ext a.1 rfl)
  | p :: l, q :: m, i + 1, .cons a b, h => by
    simp only [List.getElem?_cons_succ] at h ⊢
    exact PairD.getV b h
def iKeysF (td : TE) : TI := fun σ H R => td σ H fun x H1 => ∃ p kvs, x = .ref p ∧ ((∃ o, H1 p = some (.frz o (.dK kvs)) ∧ R (Itk p o kvs) H1) ∨ (H1 p = some (.dK kvs) ∧ ∀ o, R (Itk p o kvs) (upd H1 p (.frz o (.dK kvs)))))
theorem pi_keysF {td : TE} (he : PE X e td) : PI X tg e (iKeysF td) := by
  refine ⟨fun pins s σ H R I h => ?_⟩
  refine thn (he.run pins s σ H _ I h) fun u s1 ⟨x, H1, I1, rx, p, kvs, ex, q⟩ => ?_
  subst ex
  obtain rfl : u = Value.ref p := rx
  have key : ∀ (o : Obj) (H2 : Hp), Inv X pins σ H2 s1 → H2 p = some (.frz o (.dK kvs)) → R (Itk p o kvs) H2 → wpAny (model X.prog X.w) X.A (pyIter (.ref p)) (PIE X pins σ tg R) X.xe s1 := fun o H2 I2 hd q => by
    obtain ⟨hs, hgd, hx, es, ep, vs, hdt, hsz, kv, hm⟩ := I2.frzK hd
    refine iter_keys hs hgd hx hdt (pi_one (tk := s1.toks) I2 _ (turn_keys _ hdt) ⟨_, Heap.get?_push_size _ rfl, rfl, ?_⟩ q)
    rw [hsz] <;> rfl
  rcases q with ⟨o, hd, q⟩ | ⟨hd, q⟩
  · exact key o H1 I1 hd q
  · obtain ⟨od, I2⟩ := I1.lock hd True.intro
    exact key od _ I2 upd_same (q od)
/-- the keys of a dict; it is locked from then on -/
def dIKeys (a : DE) : DI := fun ρ x G R => a ρ x G fun l G1 => ∃ p kvs, l = .ref p ∧ kvs.length ≤ sizeLine ∧ ((G1 p = some (.dK kvs) ∧ ∀ o ks, R (kvs.map fun kv => kD kv.1) (fun G => G p = some (.fK o ks kvs)) (gup G1 p (.fK o ks kvs))) ∨
  ∃ o ks, G1 p = some (.fK o ks kvs) ∧ R (kvs.map fun kv => kD kv.1) (fun G => G p = some (.fK o ks kvs)) G1)
theorem it_keys {K : PySem.W.Frag} {Z : Addr → Prop} {p : Addr} {o : Obj} {ks : List (Key × V)} {kvs : List (Key × D)} {G0 : GH} {H0 : Hp} (hr : HR K Z G0 H0) (g : G0 p = some (.fK o ks kvs)) (hz : kvs.length ≤ sizeLine) :
    ItOk K Z (Itk p o ks) (kvs.map fun kv => kD kv.1) G0 H0 (fun G => G p = some (.fK o ks kvs)) := by
  have len : (kvs.map fun kv => kD kv.1).length = kvs.length := List.length_map _
  have l2 : kvs.length = ks.length := (hr.at_ _ _ g).2.length
  refine ⟨by rw [len]; exact hz, fun Z' i G H up f r gd hi => ⟨(r.at_ _ _ gd).1, by rw [len] at hi; omega⟩, fun Z' G H up f r gd => ⟨(r.at_ _ _ gd).1, by rw [len]; omega⟩, fun Z' i G H x H' up f r gd hi y => ?_⟩
  obtain ⟨e1, k, v, e2, e3⟩ := y
  subst e1 e3
  obtain ⟨d, h1, _⟩ := (r.at_ _ _ gd).2.getV e2
  exact ⟨_, by rw [List.getElem?_map, h1]; rfl, Fr.refl _ _, r, kD_D k⟩
theorem pdi_keys (ha : PD X W e a) : PDI X W tg e (dIKeys a) := PI.imp (pi_keysF ha) fun σ H R ⟨Z, ρ, x, G, Qd, sr, hr, h, c, xo⟩ => ⟨Z, ρ, x, G, _, sr, hr, h, fun l lv G1 H1 f1 r1 d1 ⟨p, kvs, el, hz, q⟩ => by
  subst el
  cases d1
  rcases q with ⟨g, q⟩ | ⟨o, ks, g, q⟩
  · obtain ⟨ks, hp, pr⟩ := r1.at_ _ _ g
    refine ⟨p, ks, rfl, .inr ⟨hp, fun o => ?_⟩⟩
    have f2 : Fr G1 H1 (gup G1 p (.fK o ks kvs)) (upd H1 p (.frz o (.dK ks))) := Fr.put g
    have r2 : HR X.K Z (gup G1 p (.fK o ks kvs)) (upd H1 p (.frz o (.dK ks))) := r1.put g ⟨upd_same, pr.mono f2⟩
    exact c _ _ _ _ _ (f1.trans f2) r2 (it_keys r2 gup_same hz) (q o ks)
  · obtain ⟨hp, pr⟩ := r1.at_ _ _ g
    exact ⟨p, ks, rfl, .inl ⟨o, hp, c _ _ G1 H1 _ f1 r1 (it_keys r1 g hz) q⟩⟩, xo⟩
/-! ### dicts of tuple keys -/
def dNewT : DE := fun _ _ G Q => ∀ p, G p = none → Q (.ref p) (gup G p (.dT []))
theorem pd_newT : PD X W (.Dict [] [] pos) dNewT := PE.imp pe_dnewT fun σ H Q ⟨Z, ρ, x, G, Qd, sr, hr, h, c, xo⟩ p hp =>
  c (.ref p) _ _ _ (Fr.newT hp) (hr.newT (m := .dT []) hp ⟨[], upd_same, .nil⟩) (.ref p) (h p (hr.free hp))
theorem kDs_V {K : PySem.W.Frag} {Z : Addr → Prop} {G : GH} {H : Hp} : ∀ {k : List Key} {vs : List V}, DVs K Z G H (k.map kD) vs → vs = k.map kV
  | [], _, .nil => rfl
  | k :: r, _, .cons a b => by
    rw [kD_V a, kDs_V b] <;> rfl
theorem kDs_D {K : PySem.W.Frag} {Z : Addr → Prop} {G : GH} {H : Hp} : ∀ k : List Key, DVs K Z G H (k.map kD) (k.map kV)
  | [] => .nil
  | k :: r => .cons (kD_D k) (kDs_D r)
def tkD (k : List Key) : D := .tup (k.map kD)
/-- d[k] = e, k a tuple -/
def dSetT (a o i : DE) : DS := fun D ρ G => a ρ (D.xx ρ) G fun z G1 => o ρ (D.xx ρ) G1 fun l G2 => i ρ (D.xx ρ) G2 fun y G3 => ∃ p kvs k, l = .ref p ∧ y = tkD k ∧ G3 p = some (.dT kvs) ∧ kvs.length < sizeLine ∧ D.nx ρ (gup G3 p (.dT (putD kvs k z)))
theorem pds_setT {o i : Expr} {p' : Pos} {da do_ di : DE} (hu : X.A.units + 64 < cLine) (ha : PD X W e da) (ho : PD X W o do_) (hi : PD X W i di)
    (hs : swapsWithSole [.Subscript o i p'] e pos.line X.env = pure false := by rfl) (hw : swappedStores [.Subscript o i p'] e X.env = pure none := by rfl) (h1 : (assignEach [.Subscript o i p'] X.env).map (·.2) = [assign (.Subscript o i p') X.env] := by rfl)
    (hg : ∀ v, assign (.Subscript o i p') X.env v = (do
      let ov ← holding [v] (eval o X.env)
      let iv ← holding [v, ov] (eval i X.env)
      standAt p'
      holding [v, ov, iv] (setItem ov iv v)
      release [v, ov, iv] []) := by intro _; rfl) : PDS X W (.Assign [.Subscript o i p'] e pos) (dSetT da do_ di) :=
  PS.imp (ps_asg ha (pg_sub ho hi (set_dict (by omega)) hg) hs hw h1) fun E σ H ⟨Z, ρ, G, Dd, sr, hr, h, ok⟩ => ⟨Z, ρ, Dd.xx ρ, G, _, sr, hr, h, fun z v G1 H1 f1 r1 d1 q1 =>
    ⟨Z, ρ, Dd.xx ρ, G1, _, sr.mono f1, r1, q1, fun l lv G2 H2 f2 r2 d2 q2 => ⟨Z, ρ, Dd.xx ρ, G2, _, sr.mono (f1.trans f2), r2, q2, fun y yv G3 H3 f3 r3 d3 ⟨p, kvs, k, el, ey, g, hz, q⟩ => by
      subst el ey
      cases d2
      cases d3 with
      | tup n1 g1 h1 z1 rr =>
        rename_i b vs
        obtain rfl := kDs_V rr
        obtain ⟨ks, hp, rk⟩ := r3.at_ _ _ g
        refine ⟨p, _, rfl, DPut.t hp h1 (by rw [← rk.length]; exact hz), ?_⟩
        have f4 : Fr G3 H3 (gup G3 p (.dT (putD kvs k z))) (upd H3 p (.dT (putK ks k v))) := Fr.put g
        have r4 : HR X.K Z (gup G3 p (.dT (putD kvs k z))) (upd H3 p (.dT (putK ks k v))) := r3.put g ⟨_, upd_same, (rk.mono f4).put (d1.mono (f2.trans (f3.trans f4)))⟩
        exact ok.nx ρ σ _ _ (f1.trans (f2.trans (f3.trans f4))) r4 (sr.mono (f1.trans (f2.trans (f3.trans f4)))) q, (ok.xo sr).mono (f1.trans f2)⟩, (ok.xo sr).mono f1⟩, ok.xo sr⟩
/-- list(d), d of tuple keys -/
def rdListT : RDC := fun zs G Q => ∃ p kvs, zs = [.ref p] ∧ G p = some (.dT kvs) ∧ kvs.length ≤ sizeLine ∧ (∀ kv ∈ kvs, kv.1.length ≤ sizeLine) ∧ Q (.lst (kvs.map fun kv => tkD kv.1)) G
def rListT : List V → Hp → VK → Prop := fun xs H Q => ∃ d kvs, xs = [V.ref d] ∧ Rd H d (.dT kvs) ∧ ∀ p bs, H p = none → IsKeys H kvs bs → Q (.ref p) (upd H p (.lst (bs.map V.ref)))
theorem call_listT (hc : X.calm = true) : CallR X (.type "list") rListT := call_list_dT hc
theorem keys_DVs {K : PySem.W.Frag} {Z : Addr → Prop} {G : GH} {H : Hp} (hr : HR K Z G H) : ∀ {kvs : List (List Key × D)} {ks : List (List Key × V)} {bs : List Addr}, PairD K Z G H kvs ks → IsKeys H ks bs → (∀ kv ∈ kvs, kv.1.length ≤ sizeLine) →
    DVs K Z G H (kvs.map fun kv => tkD kv.1) (bs.map V.ref)
  | _, _, _, .nil, .nil, _ => .nil
  | kv :: kvs, k :: ks, b :: bs, .cons a r, .cons e t, h => by
    have e2 : H b = some (.tup (kv.1.map kV)) := by rw [a.1]; exact e
    obtain ⟨z1, g1⟩ := hr.tupZ e2
    exact .cons (.tup z1 g1 e2 (by rw [List.length_map]; exact h kv List.mem_cons_self) (kDs_D _)) (keys_DVs hr r t fun x hx => h x (List.mem_cons_of_mem _ hx))
theorem cll_listT {K : PySem.W.Frag} : CallL K rListT rdListT := by
  rintro Z zs vs G H Qd Q hr ds ⟨p, kvs, rfl, g, hz, hk, q⟩ c
  obtain ⟨v, rfl, d⟩ := ds.one
  cases d
  obtain ⟨ks, hp, pr⟩ := hr.at_ _ _ g
  refine ⟨p, ks, rfl, .inl hp, fun q0 bs hq ik => ?_⟩
  have dv := keys_DVs hr pr ik hk
  exact Ret.lst c hr hq dv (by rw [List.length_map, ← ik.length, ← pr.length]; exact hz) q
/-! ### list(range(a, b)) -/
def dLstRg (a b : DE) : DE := fun ρ x G Q => a ρ x G fun z G1 => b ρ x G1 fun y G2 => ∃ i j, z = .int i ∧ y = .int j ∧ RgOk i j ∧ Q (.lst (rngD i (j - i).toNat)) G2
theorem pd_lstRg {p2 pos2 : Pos} {da db : DE} (hc : X.calm = true) (hm : X.mg "list" = none) (hm2 : X.mg "range" = none) (ha : PD X W e1 da) (hb : PD X W e2 db) (hg : Gl X "list" := by rfl) (hg2 : Gl X "range" := by rfl)
    (na2 : starEach [e1, e2] X.env = (false, eval e1 X.env) :: starEach [e2] X.env := by rfl) (nb2 : starEach [e2] X.env = (false, eval e2 X.env) :: starEach [] X.env := by rfl)
    (na : starEach [.Call (.Name "range" p2) [e1, e2] [] pos2] X.env = (false, eval (.Call (.Name "range" p2) [e1, e2] [] pos2) X.env) :: starEach [] X.env := by rfl)
    (hp : ((backTo pos2 (starEach [e2] X.env)).any fun x => x.1) = false := by rfl) :
    PD X W (.Call (.Name "list" p) [.Call (.Name "range" p2) [e1, e2] [] pos2] [] pos) (dLstRg da db) := PE.imp (pe_listRg hc hg hm (prg_2 hg2 hm2 ha hb na2 nb2 hp) na) fun σ H Q ⟨Z, ρ, x, G, Qd, sr, hr, h, c, xo⟩ =>
  ⟨Z, ρ, x, G, _, sr, hr, h, fun z v G1 H1 f1 r1 d1 q1 => ⟨Z, ρ, x, G1, _, sr.mono f1, r1, q1, fun y u G2 H2 f2 r2 d2 ⟨i, j, ez, ey, ok, q⟩ => by
    subst ez ey
    cases d1
    cases d2
    refine ⟨i, j, rfl, rfl, ok, fun q0 hq => ?_⟩
    have e3 : rgV i j = ((List.range (j - i).toNat).map fun k => i + (k : Nat)).map V.int := by unfold rgV; rw [List.map_map]; rfl
    have e4 : rngD i (j - i).toNat = ((List.range (j - i).toNat).map fun k => i + (k : Nat)).map D.int := by unfold rngD; rw [List.map_map]; rfl
    rw [e3]
    rw [e4] at q
    exact Ret.lst (Ret.mono (f1.trans f2) c) r2 hq (DVs.of_ints _) (by rw [List.length_map, List.length_map, List.length_range]; exact Nat.le_trans ok.2.2.2.2 (by rw [sizeLine_eq]; decide)) q, xo.mono f1⟩, xo⟩
/-! ### a, b, c = x, y, z: three local names -/
def dPar3 (i j l : Nat) (a b c : DE) : DS := fun D ρ G => a ρ (D.xx ρ) G fun z G1 => b ρ (D.xx ρ) G1 fun y G2 => c ρ (D.xx ρ) G2 fun w G3 => D.nx (((ρ.set i (some z)).set j (some y)).set l (some w)) G3
theorem pds_par3 (i j l : Nat) {x y z : Str} {c : DE} {px py pz pt : Pos} {kt k2 pt2} (hc : X.calm = true) (hN : X.N.Nodup) (ha : PD X W e1 a) (hb : PD X W e2 b) (h3 : PD X W e3 c) (hi : X.N[i]? = some x := by rfl) (hj : X.N[j]? = some y := by rfl) (hl : X.N[l]? = some z := by rfl) (hij : i ≠ j := by decide) (hil : i ≠ l := by decide) (hjl : j ≠ l := by decide)
    (hx : X.env.scope.names.lookup x = some .local := by rfl) (hy : X.env.scope.names.lookup y = some .local := by rfl) (hz : X.env.scope.names.lookup z = some .local := by rfl)
    (hw : swappedStores [.Tuple [.Name x px, .Name y py, .Name z pz] kt pt] (.Tuple [e1, e2, e3] k2 pt2) X.env = pure (some [x, y, z]) := by rfl)
    (hs : swapsWithSole [.Tuple [.Name x px, .Name y py, .Name z pz] kt pt] (.Tuple [e1, e2, e3] k2 pt2) pos.line X.env = pure false := by rfl)
    (hs1 : starEach (e1 :: [e2, e3]) X.env = (false, eval e1 X.env) :: starEach [e2, e3] X.env := by rfl) (hs2 : starEach (e2 :: [e3]) X.env = (false, eval e2 X.env) :: starEach [e3] X.env := by rfl) (hs3 : starEach (e3 :: []) X.env = (false, eval e3 X.env) :: starEach [] X.env := by rfl) :
    PDS X W (.Assign [.Tuple [.Name x px, .Name y py, .Name z pz] kt pt] (.Tuple [e1, e2, e3] k2 pt2) pos) (dPar3 i j l a b c) :=
  PS.imp (ps_par3 hc hN hi hj hl hij hil hjl hx hy hz (pa_cons ha (pa_cons hb (pa_cons h3 pa_nil hs3) hs2) hs1) hw hs) fun E σ H ⟨Z, ρ, G, Dd, sr, hr, h, ok⟩ =>
    ⟨Z, ρ, Dd.xx ρ, G, _, sr, hr, h, fun z v G1 H1 f1 r1 d1 q1 => ⟨Z, ρ, Dd.xx ρ, G1, _, sr.mono f1, r1, q1, fun y u G2 H2 f2 r2 d2 q2 => ⟨Z, ρ, Dd.xx ρ, G2, _, sr.mono (f1.trans f2), r2, q2, fun w uw G3 H3 f3 r3 d3 q3 =>
      ⟨v, u, uw, rfl, ok.nx _ _ G3 H3 (f1.trans (f2.trans f3)) r3 ((((sr.mono (f1.trans (f2.trans f3))).set (d1.mono (f2.trans f3)) i).set (d2.mono f3) j).set d3 l) q3⟩, (ok.xo sr).mono (f1.trans f2)⟩, (ok.xo sr).mono f1⟩, ok.xo sr⟩
end
end TD
/-! # TD, 17: sorted(set(xs)), xs a list of ints -/
namespace TD
open PySem PySem.Spec PyProof.Rows L2
section
variable {P : Program} {w : World} {A : Around} {E : Value → Shared → Prop} {s : Shared}
/-- an empty set, just made -/
abbrev freshSet (w : World) : Obj := { cls := .type "set", dict := none, data := .set #[] 0 (.fresh 0 0 (!w.params.followText "set-order")) }
abbrev h0 (w : World) (h : Heap) : Heap := h.push (freshSet w)
theorem set_of_list {l : Addr} {its : Array Value} (ns : List Int) {Q : Value → Shared → Prop} (hh : A.handled = none) (hl : s.heap.IsList l its) (hit : IntsAre its.toList ns) (hb : ns.length + 1 < scanBound)
    (h : ∀ (h' : Heap) (tk c : Nat), SetR w h' s.heap.objs.size (fun j => decide (j ∈ ns)) c → c ≤ ns.length → (∀ b o, s.heap.get? b = some o → h'.get? b = some o) → Q (.ref s.heap.objs.size) { s with heap := h', toks := tk }) :
    wpAny (model P w) A (call (.type "set") [.ref l]) Q E s := by
  have size_is : its.size = ns.length := by have q := IntsAre.length hit; rw [Array.length_toList] at q; exact q
  obtain ⟨c, tl, hmro⟩ := F.called_set.mro
  have m1 := F.called_set.made
  have m2 := F.called_set.sub
  refine wpAny_call (codeAny_of_tree ?_)
  show wpAny _ _ (callAny (.type "set") _) _ _ _
  refine wpAny_pure ⟨Code.quiet_builtin _ (by decide +kernel), codeAny_builtin F.entry_type_call ?_⟩
  rw [Around.under_plain (weight_type_call_type "set" [.ref l] []) rfl]
  have m3 := F.called_set.notType
  have m4 := F.called_set.canCreate
  have m5 := F.typeCall_set_1 (.ref l)
  repeat (any_goals (first | assumption | wp_step))
  refine codeAny_mono (code_set_led1 (.ref l) (E := E) (Q₁ := fun obj s₁ => obj = .ref s.heap.objs.size ∧ s₁ = { s with heap := h0 w s.heap }) ⟨rfl, rfl⟩) fun r s₁ hr => ?_
  cases r with
  | error e => exact hr
  | ok fl =>
    cases fl with
    | ret obj =>
      obtain ⟨rfl, rfl⟩ := hr
      have got : (h0 w s.heap).get? s.heap.objs.size = some (freshSet w) := Heap.get?_push_size _ rfl
      have its_set : Shared.TypeIs { s with heap := h0 w s.heap } (.ref s.heap.objs.size) "set" := ⟨_, got, rfl⟩
      have m6 := F.called_set.init.lookup
      have m7 := F.called_set.init.bind (.ref s.heap.objs.size)
      repeat (any_goals (first | assumption | wp_step))
      refine codeAny_mono (codeAny_call_builtin (R := wants (fun r s₂ => r = .none ∧ ∃ h' tk c, s₂ = { s with heap := h', toks := tk } ∧ SetR w h' s.heap.objs.size (fun j => decide (j ∈ ns)) c ∧ c ≤ ns.length ∧
          (∀ b o, s.heap.get? b = some o → h'.get? b = some o)) E) F.called_set.init.plain F.entry_set_init (check_set_init_1 its_set ?_)) fun r₂ s₂ hr₂ => ?_
      · obtain ⟨ol, hol, hcl, nl, hdl⟩ := hl
        obtain ⟨ocls, odict, odata, oslots⟩ := ol
        simp only at hcl hdl
        subst hcl; subst hdl
        have at1 : (h0 w s.heap).get? l = some { cls := .type "list", dict := odict, data := .seq its nl, slots := oslots } := Heap.get?_push_of_some _ hol
        have no1 := F.sub_list_set
        have no2 := F.sub_list_frozenset
        have no3 : (Value.type "list" == Value.type "dict") = false := by decide
        have is1 : (h0 w s.heap).IsList l its := ⟨_, at1, rfl, nl, rfl⟩
        unfold Builtin.«set.__init__» noKeywords Builtin.Frozenset.updateFrom
        generalize hPI : pyIter = PI
        wp_walk
        subst hPI
        refine wpAny_pyIter_list is1 ?_
        refine wpAny_bind (wpAny_runValue ?_)
        have low : l < s.heap.objs.size := Heap.lt_size hol
        have calm3 : A.in1.in1.in1.handled = none := by simp [hh]
        have neI : l ≠ (h0 w s.heap).objs.size := by
          rw [Heap.size_push]; exact Nat.ne_of_lt (Nat.lt_succ_of_lt low)
        have out : s.heap.objs.size ∉ [(h0 w s.heap).objs.size, l] := by
          rw [Heap.size_push]; simp only [List.mem_cons, List.mem_singleton, List.not_mem_nil, or_false, not_or]
          exact ⟨Nat.ne_of_lt (Nat.lt_succ_self _), Nat.ne_of_gt low⟩
        have vals : ∀ (i : Nat) (v : Value), its[i]? = some v → ∃ k t, ns[i]? = some k ∧ v = .int k t := fun i v hv => by
          have hi : i < ns.length := by rw [← size_is]; exact (Array.getElem?_eq_some_iff.mp hv).1
          obtain ⟨t, e⟩ := PyProof.Rows.IntsAre.int_at hit i v (by rw [Array.getElem?_toList]; exact hv)
          refine ⟨ns[i], t, List.getElem?_eq_getElem hi, ?_⟩
          rw [e, List.getD_eq_getElem?_getD, List.getElem?_eq_getElem hi] <;> rfl
        refine set_update_ints ((Walks.list calm3 _ l neI its).toS) s.heap.objs.size out ns size_is hb vals (its.size - 0) 0 _ (by omega) (Nat.zero_le _)
          ⟨⟨_, Heap.get?_push_size _ rfl, rfl, rfl⟩, (is1.push _)⟩ ?first ?rest
        case first => exact ⟨0, Nat.le_refl 0, setR_new_at (Heap.get?_push_of_some _ got)⟩
        case rest =>
          intro s' c' hm hc' done
          obtain ⟨h', g2, d', tk', os'⟩ := s'
          obtain rfl : g2 = s.gens := hm.gens
          obtain rfl : d' = s.drawn := hm.drawn
          obtain rfl : os' = s.os := hm.os
          show wpAny _ _ _ _ _ _
          refine wpAny_pure ?_
          show wpAny _ _ (ret Value.none) _ _ _
          rw [size_is] at hc'
          refine wpAny_pure ⟨rfl, h', tk', c', rfl, done, hc', fun b o e => ?_⟩
          have b0 : b < s.heap.objs.size := Heap.lt_size e
          have b2 : b ≠ (h0 w s.heap).objs.size := by rw [Heap.size_push]; exact Nat.ne_of_lt (Nat.lt_succ_of_lt b0)
          exact hm.heap b o (by simp only [List.mem_cons, List.mem_singleton, List.not_mem_nil, or_false, not_or]; exact ⟨Nat.ne_of_lt b0, b2⟩) (Heap.get?_push_of_some _ (Heap.get?_push_of_some _ e))
      · cases r₂ with
        | error e => exact hr₂
        | ok fl₂ =>
          cases fl₂ with
          | ret r =>
            obtain ⟨rfl, h', tk, c', rfl, done, hc', hk'⟩ := hr₂
            repeat (any_goals (first | assumption | wp_step))
            exact h _ _ _ done hc' hk'
          | _ => exact hr₂.elim
    | _ => exact hr.elim
end
def rSetOfL (K : PySem.W.Frag) (w : World) : List V → Hp → VK → Prop := fun xs H Q => ∃ (p : Addr) (ns : List Int), xs = [.ref p] ∧ SqL K H p (ns.map V.int) ∧ ns.length ≤ 1000 ∧ ∀ a n, n ≤ ns.length → H a = none → Q (.ref a) (upd H a (SetO w a (fun j => decide (j ∈ ns)) n))
theorem cr_setOfL {X : Cx} (hc : X.calm = true) : CallR X (.type "set") (rSetOfL X.K X.w) := by
  intro pins s σ H vs us Q I r h
  obtain ⟨p, ns, rfl, hs, hl, q⟩ := h
  obtain ⟨its, rv, pl, _⟩ := I.list hs
  rw [Vals.ref1 r]
  refine set_of_list ns (I.ok.hd hc) pl.isList (by simpa using intsAre_of rv) (by unfold scanBound; omega) fun h' tk c R1 hcn k => ?_
  have hn : H s.heap.objs.size = none := I.hok.fresh (Nat.le_refl _)
  exact ⟨.ref _, _, I.laid (t' := tk) k (Nat.le_refl _) (setO_new R1), rfl, q _ c hcn hn⟩
/-- the ints of a list, ascending, each once -/
def dSortSetL (a : DE) : DE := fun ρ x G Q => a ρ x G fun z G1 => ∃ ns : List Int, z = .lst (ns.map D.int) ∧ ns.length < 64 ∧ ∀ ms : List Int, ms.Pairwise (· < ·) → (∀ k, k ∈ ms ↔ k ∈ ns) → Q (.lst (ms.map D.int)) G1
section
variable {X : Cx} {W : WX} {e : Expr} {a : DE} {p p2 pos pos2 : Pos}
theorem pd_sortSetL (hc : X.calm = true) (hm : X.mg "sorted" = none) (hm2 : X.mg "set" = none) (ha : PD X W e a) (hg : Gl X "sorted" := by rfl) (hg2 : Gl X "set" := by rfl)
    (hs : starEach [.Call (.Name "set" p2) [e] [] pos2] X.env = (false, eval (.Call (.Name "set" p2) [e] [] pos2) X.env) :: starEach [] X.env := by rfl) (hs2 : starEach [e] X.env = (false, eval e X.env) :: starEach [] X.env := by rfl) :
    PD X W (.Call (.Name "sorted" p) [.Call (.Name "set" p2) [e] [] pos2] [] pos) (dSortSetL a) :=
  PE.imp (pe_callB (cr_sortedSet hc) hg hm (by decide +kernel) (pa_cons (pe_callTy (cr_setOfL hc) hg2 hm2 (by decide +kernel) (pa_cons ha pa_nil hs2) (by decide) (by decide) hs2 (by rfl)) pa_nil hs) (by decide) (by decide) hs (by rfl))
    fun σ H Q ⟨Z, ρ, x, G, Qd, sr, hr, h, c, xo⟩ => ⟨Z, ρ, x, G, _, sr, hr, h, fun z v G1 H1 f1 r1 d1 ⟨ns, ez, hl, q⟩ => by
      subst ez
      cases d1 with
      | lst n1 g1 h1 z1 r2 =>
        rename_i ad vs
        have e1 : vs = ns.map V.int := r2.ints
        subst e1
        refine ⟨ad, ns, rfl, SqL.of h1, by omega, fun b n hn hb => ⟨b, _, n, rfl, upd_same, by omega, fun ms q' hp hm hlen hq' => ?_⟩⟩
        have f2 : Fr G1 H1 G1 (upd H1 b (SetO X.w b (fun j => decide (j ∈ ns)) n)) := Fr.new hb
        have r3 := r1.new (o := SetO X.w b (fun j => decide (j ∈ ns)) n) hb
        exact Ret.lst (Ret.mono (f1.trans f2) c) r3 hq' (DVs.of_ints ms) (by rw [List.length_map, hlen, sizeLine_eq]; omega) (q ms hp fun k => by rw [hm k, decide_eq_true_eq]), xo⟩
end
end TD
/-! # TD, 18: max of the nested data of a list that was grown -/
namespace TD
open PySem PySem.Spec PyProof.Rows L2
def rdMaxR : RDC := fun zs G Q => ∃ a x xs n, zs = [.ref a] ∧ G a = some (.lst (x :: xs)) ∧ n ≤ 60 ∧ (∀ y ∈ x :: xs, pureN n y = true) ∧ PySem.W.AlikeAll ((x :: xs).map toP) ∧ Q (maxF x xs) G
theorem cll_maxR {K : PySem.W.Frag} : CallL K (rMinP K true) rdMaxR := by
  rintro Z zs vs G H Qd Q hr ds ⟨a, x, xs, n, rfl, g, hn, hp, ha, q⟩ c
  obtain ⟨v, rfl, d⟩ := ds.one
  cases d
  obtain ⟨ws, h1, r1, z1⟩ := hr.at_ _ _ g
  refine ⟨a, ws, toP x, xs.map toP, rfl, SqL.of h1, r1.dp n hp, ha, depthAll_le (n := 60) (fun y hy => ?_), fun v hv => ?_⟩
  · rw [← List.map_cons] at hy
    obtain ⟨e, he, rfl⟩ := List.mem_map.mp hy
    exact Nat.le_trans (pureN_ok n e (hp e he)).2 hn
  · have e := (PySem.W.argBest_fold (fun a b => dltP b a) D.non x xs xs.length (Nat.le_refl _))
    rw [List.length_map] at hv
    have eq : (fun i j => if (true : Bool) = true then PySem.W.dataLt ((toP x :: xs.map toP).getD j .none) ((toP x :: xs.map toP).getD i .none) else PySem.W.dataLt ((toP x :: xs.map toP).getD i .none) ((toP x :: xs.map toP).getD j .none)) = fun i j => dltP ((x :: xs).getD j .non) ((x :: xs).getD i .non) := by
      funext i j
      rw [if_pos rfl, ← List.map_cons, getD_toP, getD_toP] <;> rfl
    rw [eq] at hv
    obtain ⟨d, hd, rd⟩ := r1.getV hv
    have e2 := e.2
    rw [List.getD_eq_getElem?_getD, hd, List.take_length] at e2
    have e3 : d = maxF x xs := e2
    rw [e3] at rd
    exact Ret.here c hr rd q
end TD
/-! # TD, 19: a comprehension's list that is told; item += ; while; pop(i) -/
namespace TD
open PySem PySem.Spec PyProof.Rows L2
section
variable {K : PySem.W.Frag} {Z Z' : Addr → Prop} {G : GH} {H : Hp} {D0 : Addr} {ws : List V} {μ : MO}
/-! a hidden list is told: no value sees it -/
mutual
theorem DV.tell (hz : Z D0) : ∀ {d : D} {v : V}, DV K Z G H d v → DV K Z (gup G D0 μ) H d v
  | _, _, .non => .non
  | _, _, .bl b => .bl b
  | _, _, .int i => .int i
  | _, _, .str x => .str x
  | _, _, .ref a => .ref a
  | _, _, .ty n => .ty n
  | _, _, .dic nz g h => .dic nz (by rw [gup_ne (z_ne hz nz)]; exact g) h
  | _, _, .tup nz g h z r => .tup nz (by rw [gup_ne (z_ne hz nz)]; exact g) h z (DVs.tell hz r)
  | _, _, .lst nz g h z r => .lst nz (by rw [gup_ne (z_ne hz nz)]; exact g) h z (DVs.tell hz r)
  | _, _, .scr h z => .scr (by
      rcases h with ⟨g, nz, h⟩ | h
      · exact .inl ⟨by rw [gup_ne (z_ne hz nz)]; exact g, nz, h⟩
      · exact .inr h) z
theorem DVs.tell (hz : Z D0) : ∀ {ds : List D} {vs : List V}, DVs K Z G H ds vs → DVs K Z (gup G D0 μ) H ds vs
  | _, _, .nil => .nil
  | _, _, .cons a b => .cons (DV.tell hz a) (DVs.tell hz b)
end
theorem PairD.tell {κ : Type} (hz : Z D0) : ∀ {l : List (κ × D)} {m : List (κ × V)}, PairD K Z G H l m → PairD K Z (gup G D0 μ) H l m
  | _, _, .nil => .nil
  | _, _, .cons a b => .cons ⟨a.1, a.2.tell hz⟩ (PairD.tell hz b)
theorem HR.told {ds : List D} (h : HR K Z' G H) (hz : Z' D0) (up : ∀ a, Z a → Z' a) (nz : ¬ Z D0) (hd : H D0 = some (.lst ws)) (r : DVs K Z' G H ds ws) (l : ws.length ≤ sizeLine) : HR K Z (gup G D0 (.lst ds)) H := by
  refine ⟨fun a m q => ?_, fun a q => ?_⟩
  · by_cases e : a = D0
    · rw [e, gup_same] at q
      cases q
      rw [e]
      exact ⟨ws, hd, (r.tell hz).zmono fun _ _ => up _, l⟩
    · rw [gup_ne e] at q
      refine MR.zmono (Z := Z') (fun _ _ => up _) ?_
      have r := h.at_ a m q
      cases m with
      | lst ds => obtain ⟨vs, h1, h2, h3⟩ := r; exact ⟨vs, h1, h2.tell hz, h3⟩
      | dK ds => obtain ⟨vs, h1, h2⟩ := r; exact ⟨vs, h1, h2.tell hz⟩
      | dT ds => obtain ⟨vs, h1, h2⟩ := r; exact ⟨vs, h1, h2.tell hz⟩
      | fK o' ks ds => obtain ⟨h1, h2⟩ := r; exact ⟨h1, h2.tell hz⟩
      | fT o' ks ds => obtain ⟨h1, h2⟩ := r; exact ⟨h1, h2.tell hz⟩
      | ins C fs => obtain ⟨dx, fv, h1, h2⟩ := r; exact ⟨dx, fv, h1, h2.tell hz⟩
      | tab w =>
        obtain ⟨ps, h1, h2, h3⟩ := r
        refine ⟨ps, h1, h2, fun pos cv hc => ?_⟩
        obtain ⟨c, e1, e2, e3⟩ := h3 pos cv hc
        refine ⟨c, e1, e2, ?_⟩
        rw [gup_ne]
        · exact e3
        · intro z
          rw [z, hd] at e2
          unfold LamX.CodeO at e2
          cases e2
      | tupC ds => obtain ⟨o, vs, h1, h2, h3, h4⟩ := r; exact ⟨o, vs, h1, h2, h3.tell hz, h4⟩
      | ext φ ks => obtain ⟨h1, h2⟩ := r; exact ⟨h1, fun p hp => (h2 p hp).tell hz⟩
  · have ne : a ≠ D0 := fun e => nz (e ▸ q)
    obtain ⟨h1, h2⟩ := h.hid a (up a q)
    exact ⟨h1, by rw [gup_ne ne]; exact h2⟩
end
/-- a comprehension whose list is told -/
def dLcM (di : DI) (g : DG) (t : DT) (e : DE) (vs : List Nat) : DE := fun ρ x G Q => di ρ x G fun items Gd G1 => dComp Gd g t e (dwipe ρ vs) (fun z G2 => ∀ p acc, z = .lst acc → G2 p = none → Q (.ref p) (gup G2 p (.lst acc))) items [] G1
theorem low_lcM {K : PySem.W.Frag} {W : WX} {di : DI} {g : DG} {t : DT} {e : DE} {vs : List Nat} : ∀ σ H Q, lowE K W (dLcM di g t e vs) σ H Q → tLc (lowI K W di) (lowG K WF vs g) (lowT K WF t) (lowE K WF e) vs σ H Q := fun σ H Q ⟨Z, ρ, x, G, Qd, sr, hr, h, c, xo⟩ =>
  ⟨Z, ρ, x, G, _, sr, hr, h, fun items Gd G1 H1 J f1 r1 it q1 => by
    let Q2 : DK := fun z G2 => ∀ p acc, z = .lst acc → G2 p = none → Qd (.ref p) (gup G2 p (.lst acc))
    intro Dl hD
    let Z' : Addr → Prop := fun a => Z a ∨ a = Dl
    have up1 : ∀ a, H1 a ≠ none → Z' a → Z a := fun a ha q => q.elim (fun z => z) fun e => absurd hD (e ▸ ha)
    have gD : G1 Dl = none := r1.free hD
    have fN : Fr G1 H1 G1 (upd H1 Dl (.lst [])) := Fr.new hD
    have r1' : HR K Z' G1 (upd H1 Dl (.lst [])) := by
      refine ⟨fun a m q => ?_, fun a q => ?_⟩
      · exact ((r1.at_ a m q).zmono up1).keep fN (upd_ne fun z => (r1.at_ a m q).some (z ▸ hD))
      · rcases q with q | q
        · exact hid_mono fN (r1.hid a q)
        · rw [q, upd_same]
          exact ⟨⟨_, rfl⟩, gD⟩
    have sW : SR K Z' G1 (upd H1 Dl (.lst [])) (dwipe ρ vs) (L2.wipe σ vs) := (((sr.mono f1).zmono up1).mono fN).wipe vs
    refine ⟨fun i m H' => m = items.length - i ∧ i ≤ items.length ∧ ∃ G' acc accV, Fr G1 H1 G' H' ∧ HR K Z' G' H' ∧ SR K Z' G' H' (dwipe ρ vs) (L2.wipe σ vs) ∧ H' Dl = some (.lst accV) ∧ DVs K Z' G' H' acc accV ∧ accV.length ≤ i ∧ dComp Gd g t e (dwipe ρ vs) Q2 (items.drop i) acc G',
      ⟨items.length, by simp, Nat.zero_le _, G1, [], [], fN, r1', sW, upd_same, .nil, Nat.le_refl _, by simpa using q1⟩, ?_⟩
    rintro i m H2 ⟨rfl, hi, G2, acc, accV, f2, r2, s2, hd2, da, la, q2⟩
    by_cases hlt : i < items.length
    · have ed := List.drop_eq_getElem_cons hlt
      rw [ed] at q2
      obtain ⟨gd, q2⟩ := q2
      refine .inr ⟨it.go Z' i G2 H2 up1 f2 r2 gd hlt, fun H' => ∃ G' acc accV, Fr G1 H1 G' H' ∧ HR K Z' G' H' ∧ SR K Z' G' H' (dwipe ρ vs) (L2.wipe σ vs) ∧ H' Dl = some (.lst accV) ∧ DVs K Z' G' H' acc accV ∧ accV.length ≤ i + 1 ∧ dComp Gd g t e (dwipe ρ vs) Q2 (items.drop (i + 1)) acc G',
        fun H' hh => ⟨items.length - (i + 1), by omega, rfl, hlt, hh⟩, fun x3 H3 y => ?_⟩
      obtain ⟨d, edd, f3, r3, d3⟩ := it.yld Z' i G2 H2 x3 H3 up1 f2 r2 gd hlt y
      have e2 : items[i] = d := by
        rw [List.getElem?_eq_getElem hlt] at edd
        exact Option.some.inj edd
      rw [e2] at q2
      refine ⟨Z', d, _, XF, G2, _, d3, s2.mono f3, r3, q2, fun ρ4 σ4 G4 H4 f4 r4 s4 w4 q4 => ⟨w4.trans (wipe_wipe σ vs), Z', ρ4, XF, G4, _, s4, r4, q4, fun b G5 H5 f5 r5 q5 => ?_, XOk.f⟩, XOk.f⟩
      have fA : Fr G1 H1 G5 H5 := f2.trans (f3.trans (f4.trans f5))
      have hd5 : ∀ {G6 : GH} {H6 : Hp}, Fr G5 H5 G6 H6 → H6 Dl = some (.lst accV) := fun f6 =>
        ((f3.trans (f4.trans (f5.trans f6))) Dl _ hd2 (r2.hid Dl (.inr rfl)).2).1
      have sl : ∀ {G6 : GH} {H6 : Hp}, Fr G5 H5 G6 H6 → SR K Z' G6 H6 (dwipe ρ vs) (L2.wipe σ vs) := fun f6 => s2.mono (f3.trans (f4.trans (f5.trans f6)))
      cases b with
      | false => exact ⟨G5, acc, accV, fA, r5, sl (Fr.refl _ _), hd5 (Fr.refl _ _), da.mono (f3.trans (f4.trans f5)), Nat.le_succ_of_le la, q5⟩
      | true =>
        refine ⟨Z', ρ4, XF, G5, _, s4.mono f5, r5, q5, fun y2 u2 G6 H6 f6 r6 d6 q6 => ⟨accV, hd5 f6, Nat.lt_of_le_of_lt la (Nat.lt_of_lt_of_le hlt it.sz), ?_⟩, XOk.f⟩
        have h6 := hd5 f6
        refine ⟨G6, acc ++ [y2], accV ++ [u2], fun b o hb hn => ?_, r6.hidden (.inr rfl) h6, ?_, upd_same, ?_, ?_, q6⟩
        · have nb : b ≠ Dl := ne_of_none hb hD
          rw [upd_ne nb]
          exact (fA.trans f6) b o hb hn
        · exact ⟨(sl f6).len, fun j e ej => let ⟨v, a, b⟩ := (sl f6).at_ j e ej; ⟨v, a, b.hid (.inr rfl) h6⟩⟩
        · exact ((da.mono (f3.trans (f4.trans (f5.trans f6)))).append (.cons d6 .nil)).hid (.inr rfl) h6
        · rw [List.length_append, List.length_singleton]
          exact Nat.succ_le_succ la
    · have ei : i = items.length := by omega
      subst ei
      rw [List.drop_length] at q2
      refine .inl ⟨it.stop Z' G2 H2 up1 f2 r2 q2.1, ?_⟩
      have gD2 : G2 Dl = none := (r2.hid Dl (.inr rfl)).2
      have nZ : ¬ Z Dl := r1.noZ hD
      have ff : Fr G1 H1 (gup G2 Dl (.lst acc)) H2 := fun b o hb hn => by
        have nb : b ≠ Dl := ne_of_none hb hD
        rw [gup_ne nb]
        exact f2 b o hb hn
      exact c (.ref Dl) (.ref Dl) (gup G2 Dl (.lst acc)) H2 (f1.trans ff) (r2.told (.inr rfl) (fun _ z => .inl z) nZ hd2 da (Nat.le_trans la it.sz)) (.ref Dl) (q2.2 Dl acc rfl gD2), xo⟩
section
variable {X : Cx} {W : WX} {elt tg iter : Expr} {ifs : List Expr} {scope : Scope} {own : List (Str × Nat)} {pos : Pos} {di : DI} {g : DG} {t : DT} {e : DE}
theorem pd_lcM (own : List (Str × Nat)) (hc : X.calm = true) (hN : X.N.Nodup) (hi : PDI X W tg iter di) (ok : BlkOk X.N X.env.scope scope own)
    (hg : ∀ (s : Shared) (H : Hp) (C : Addr) (cl : List (Str × Addr)) (fp : List Addr), PDG (X.blk s H scope (compEnvC scope cl C X.env) fp) WF (own.map (·.2)) tg g)
    (ht : ∀ (s : Shared) (H : Hp) (C : Addr) (cl : List (Str × Addr)) (fp : List Addr), PDTs (X.blk s H scope (compEnvC scope cl C X.env) fp) WF ifs t)
    (he : ∀ (s : Shared) (H : Hp) (C : Addr) (cl : List (Str × Addr)) (fp : List Addr), PD (X.blk s H scope (compEnvC scope cl C X.env) fp) WF elt e) (hs : ∀ x, foldedSetIterable iter X.env x = pure x := by intro _; rfl) :
    PD X W (.ListComp elt [⟨tg, iter, ifs, 0⟩] scope pos) (dLcM di g t e (own.map (·.2))) := PE.imp (pe_lc hc hN hi ok hg ht he hs) low_lcM
theorem pds_setLcM (i : Nat) (own : List (Str × Nat)) {y : Str} {py spos : Pos} (hc : X.calm = true) (hN : X.N.Nodup) (hi : PDI X W tg iter di) (ok : BlkOk X.N X.env.scope scope own)
    (hg : ∀ (s : Shared) (H : Hp) (C : Addr) (cl : List (Str × Addr)) (fp : List Addr), PDG (X.blk s H scope (compEnvC scope cl C X.env) fp) WF (own.map (·.2)) tg g)
    (ht : ∀ (s : Shared) (H : Hp) (C : Addr) (cl : List (Str × Addr)) (fp : List Addr), PDTs (X.blk s H scope (compEnvC scope cl C X.env) fp) WF ifs t)
    (he : ∀ (s : Shared) (H : Hp) (C : Addr) (cl : List (Str × Addr)) (fp : List Addr), PD (X.blk s H scope (compEnvC scope cl C X.env) fp) WF elt e)
    (hsw : swapsWith (.ListComp elt [⟨tg, iter, ifs, 0⟩] scope pos) (some (.Name y py)) spos.line X.env = pure true)
    (hy : X.N[i]? = some y := by rfl) (hyl : X.env.scope.names.lookup y = some .local := by rfl) (hs : ∀ x, foldedSetIterable iter X.env x = pure x := by intro _; rfl) :
    PDS X W (.Assign [.Name y py] (.ListComp elt [⟨tg, iter, ifs, 0⟩] scope pos) spos) (dAsg (dLcM di g t e (own.map (·.2))) (gdName i)) :=
  PS.imp (ps_setLc hc hN hy hyl hsw hi ok hg ht he hs) fun E σ H ⟨Z, ρ, G, Dd, sr, hr, h, ok⟩ => low_lcM σ H _
    ⟨Z, ρ, Dd.xx ρ, G, _, sr, hr, h, fun z v G1 H1 f1 r1 d1 q1 => ok.nx _ _ G1 H1 f1 r1 ((sr.mono f1).set d1 i) q1, ok.xo sr⟩
end
end TD
/-! # TD, 20: dicts of tuple keys: setdefault, one pair's display, walks by items and values -/
namespace TD
open PySem PySem.Spec PyProof.Rows L2
/-! ### setdefault -/
section
variable {X : Cx} {pins : List (Addr × Obj)} {σ : L2.St} {H : Hp} {s : Shared} {a b : Addr} {r : Value} {d : V} {k : List Key} {A : Around} {E : Value → Shared → Prop}
theorem d_setdT {kvs : List (List Key × V)} {Q : Value → Shared → Prop} (hu : A.units + 1 < cLine) (I : Inv X pins σ H s) (e : H a = some (.dT kvs)) (eb : H b = some (.tup (k.map kV))) (rd : RelV d r) (hl : kvs.length < sizeLine)
    (h1 : ∀ v, valV kvs k = some v → ∀ (w' : Value) (s' : Shared), Inv X pins σ H s' → RelV v w' → Q w' s') (h2 : valV kvs k = none → ∀ (w' : Value) (s' : Shared), Inv X pins σ (upd H a (.dT (putK kvs k d))) s' → RelV d w' → Q w' s') :
    wpAny (model X.prog X.w) A (call (.builtin "dict.setdefault") [.ref a, .ref b, r]) Q E s := by
  obtain ⟨z, hd, xs, rel, dd⟩ := dt_of I.hok e
  have hz : xs.length ≤ sizeLine := by rw [← Paired.length rel]; exact z
  have hl' : (putK kvs k d).length ≤ sizeLine := by have := length_putK kvs k d; omega
  refine call_setdefault_heap (hsz := hz) (tupleKind_room_in1 hu) (key_of I.hok eb) hd dd (fun p hp => ?_) fun hn h' dd' hs => ?_
  · have q := rel.val k
    rw [hp] at q
    cases q0 : valV kvs k with
    | none =>
      rw [q0] at q
      exact (show False from q).elim
    | some v0 =>
      rw [q0] at q
      exact h1 v0 q0 _ _ (I.tok _) q
  · have q := rel.val k
    rw [hn] at q
    cases q0 : valV kvs k with
    | some v0 =>
      rw [q0] at q
      exact (show False from q).elim
    | none =>
      obtain ⟨q1, es, ep, hq, g2, g3, g4, _, g5⟩ := dd'
      refine h2 q0 _ _ (d_write I (by rw [e]; exact True.intro) hs ⟨q1, hq⟩ ⟨hl', hd, _, (rel.put k eb rd).keeps fun c ys ec => ?_, q1, es, ep, hq, g2, g3, g4, g5⟩) rd
      rw [upd_ne (ne_of ec e (fun z => nomatch z))]
      exact ec
end
def tDSetdT (td ty tx : TE) : TE := fun σ H Q => td σ H fun x H1 => ∃ a, x = .ref a ∧ IsD H1 a ∧ ty σ H1 fun y H2 => tx σ H2 fun z H3 => ∃ (kvs : List (List Key × V)) (k : List Key) (b : Addr), H3 a = some (.dT kvs) ∧ y = .ref b ∧ H3 b = some (.tup (k.map kV)) ∧ kvs.length < sizeLine ∧
  (∀ v, valV kvs k = some v → Q v H3) ∧ (valV kvs k = none → Q z (upd H3 a (.dT (putK kvs k z))))
section
variable {X : Cx} {W : WX} {o e f : Expr} {td ty tx : TE} {apos cpos pos : Pos}
theorem pe_dsetdT (hu : X.A.units + 1 < cLine) (ho : PE X o td) (he : PE X e ty) (hf : PE X f tx) (m : M2 X o "setdefault" apos e f cpos) : PE X (.Call (.Attribute o "setdefault" apos) [e, f] [] cpos) (tDSetdT td ty tx) := by
  refine ⟨fun pins s σ H Q I h => ?_⟩
  refine wpAny_Call_method m.base m.few m.line PySem.F.plainAttrs_dict PySem.F.slot_dict_setdefault PySem.F.type_dict_setdefault (thn (ho.run pins s σ H _ I h) fun u s1 ⟨x, H1, I1, rx, a, ex, d, q1⟩ => ?_)
  subst ex
  obtain rfl : u = Value.ref a := rx
  obtain ⟨t1, t2, _⟩ := isD_at I1 d
  refine ⟨t1, t2, ?_⟩
  rw [m.trees]
  refine Calls.callWith_builtin rfl (Calls.evalArgs_plain (Calls.spliced_cons (thn (he.run pins s1 σ H1 _ I1 q1) fun iv s2 ⟨y, H2, I2, ry, q2⟩ =>
    Calls.spliced_cons (thn (hf.run pins s2 σ H2 _ I2 q2) fun fv s3 ⟨z, H3, I3, rz, kvs, k, b, ea, ey, eb, hl, q3, q4⟩ => Calls.spliced_nil ?_))))
  subst ey
  obtain rfl : iv = Value.ref b := ry
  exact d_setdT hu I3 ea eb rz hl (fun v hv w' s4 I4 rw' => ⟨v, _, I4, rw', q3 v hv⟩) fun hn w' s4 I4 rw' => ⟨z, _, I4, rw', q4 hn⟩
/-- d.setdefault(k, z), k a tuple -/
def dSetdT (a b c : DE) : DE := fun ρ x G Q => a ρ x G fun l G1 => ∃ p, l = .ref p ∧ (∃ kvs, G1 p = some (.dT kvs)) ∧ b ρ x G1 fun y G2 => c ρ x G2 fun z G3 => ∃ k kvs, y = tkD k ∧ G3 p = some (.dT kvs) ∧ kvs.length < sizeLine ∧
  (∀ d, valD kvs k = some d → Q d G3) ∧ (valD kvs k = none → Q z (gup G3 p (.dT (putD kvs k z))))
theorem pd_setdT {do_ de df : DE} (hu : X.A.units + 64 < cLine) (ho : PD X W o do_) (he : PD X W e de) (hf : PD X W f df) (m : M2 X o "setdefault" apos e f pos := by exact ⟨by rfl, by rfl, by rfl, by rfl⟩) :
    PD X W (.Call (.Attribute o "setdefault" apos) [e, f] [] pos) (dSetdT do_ de df) := PE.imp (pe_dsetdT (by omega) ho he hf m) fun σ H Q ⟨Z, ρ, x, G, Qd, sr, hr, h, c, xo⟩ =>
  ⟨Z, ρ, x, G, _, sr, hr, h, fun l lv G1 H1 f1 r1 d1 ⟨p, el, ⟨kvs0, g0⟩, q1⟩ => by
    subst el
    cases d1
    obtain ⟨ks0, hd0, _⟩ := r1.at_ _ _ g0
    refine ⟨p, rfl, .inr ⟨ks0, .inl hd0⟩, Z, ρ, x, G1, _, sr.mono f1, r1, q1, fun y yv G2 H2 f2 r2 d2 q2 => ⟨Z, ρ, x, G2, _, sr.mono (f1.trans f2), r2, q2, fun z zv G3 H3 f3 r3 d3 ⟨k, kvs, ey, g, hz, qa, qb⟩ => ?_, xo.mono (f1.trans f2)⟩, xo.mono f1⟩
    subst ey
    have d2' := d2.mono f3
    cases d2' with
    | tup n1 g1 h1 z1 rr =>
      rename_i b vs
      obtain rfl := kDs_V rr
      obtain ⟨ks, hd, pr⟩ := r3.at_ _ _ g
      have f4 := f1.trans (f2.trans f3)
      refine ⟨ks, k, b, hd, rfl, h1, by rw [← pr.length]; exact hz, fun v hv => ?_, fun hn => ?_⟩
      · cases e : valD kvs k with
        | none => rw [pr.noval e] at hv; cases hv
        | some dd =>
          obtain ⟨v2, hv2, dv⟩ := pr.val e
          rw [hv2] at hv
          cases hv
          exact c dd v G3 H3 f4 r3 dv (qa dd e)
      · cases e : valD kvs k with
        | some dd =>
          obtain ⟨v2, hv2, dv⟩ := pr.val e
          rw [hv2] at hn
          cases hn
        | none =>
          have f5 : Fr G3 H3 (gup G3 p (.dT (putD kvs k z))) (upd H3 p (.dT (putK ks k zv))) := Fr.put g
          exact c z zv _ _ (f4.trans f5) (r3.put g ⟨_, upd_same, (pr.mono f5).put (d3.mono f5)⟩) (d3.mono f5) (qb e), xo⟩
end
/-! ### {k: v}, k a tuple -/
def tDispT (tk tv : TE) : TE := fun σ H Q => ∀ p, H p = none → tk σ (upd H p (.dT [])) fun x H1 => tv σ H1 fun y H2 => H2 p = some (.dT []) ∧ ∃ b k, x = .ref b ∧ H2 b = some (.tup (k.map kV)) ∧ Q (.ref p) (upd H2 p (.dT [(k, y)]))
section
variable {X : Cx} {W : WX} {k v : Expr} {tk tv : TE} {pos : Pos} {da db : DE}
theorem pe_dispT (hu : X.A.units + 1 < cLine) (hk : PE X k tk) (hv : PE X v tv) : PE X (.Dict [some k] [v] pos) (tDispT tk tv) := by
  refine ⟨fun pins s σ H Q I q => ?_⟩
  have hn := I.hok.fresh (Nat.le_refl s.heap.objs.size)
  have I1 := I.laid (a := s.heap.objs.size) (o := .dT []) (h' := s.heap.push { cls := .type "dict", data := .dict #[] }) (t' := s.toks) (fun _ _ q => Heap.get?_push_of_some _ q) (Nat.le_refl _) (dt_empty s.heap I.big)
  refine wpAny_Dict_any rfl rfl (by simp) (by simp) (pairTrees_cons_walk (thn (hk.run pins _ σ _ _ I1 (q _ hn)) fun u s1 ⟨x, H1, I1', rx, q1⟩ => thn (hv.run pins s1 σ H1 _ I1' q1) fun w2 s2 ⟨y, H2, I2, ry, e, b, kk, ex, eb, q2⟩ => pairTrees_nil_walk ?_))
  subst ex
  obtain rfl : u = Value.ref b := rx
  obtain ⟨z, hd, xs, rel, dd⟩ := dt_of I2.hok e
  cases rel
  unfold storeAll
  rw [List.forIn_cons]
  refine wpAny_bind (wpAny_bind (wpAny_dictSet_heap (hsz := by simp) (knd := tupleKind (mixKind X.prog X.w)) (show X.A.units < cLine by omega) (key_of I2.hok eb) dd fun h' dd' hs => wpAny_pure ?_))
  simp only [List.forIn_nil]
  refine wpAny_pure ⟨.ref s.heap.objs.size, _, ?_, rfl, q2⟩
  obtain ⟨q1, es, ep, hq, g2, g3, g4, _, g5⟩ := dd'
  refine d_write I2 (by rw [e]; exact True.intro) hs ⟨q1, hq⟩ ⟨by rw [sizeLine_eq]; simp, hd, _, (KT.put (kvs := []) .nil kk eb ry).keeps fun c ys ec => ?_, q1, es, ep, hq, g2, g3, g4, g5⟩
  rw [upd_ne (ne_of ec e (fun z => nomatch z))]
  exact ec
def dDispT (a b : DE) : DE := fun ρ x G Q => ∀ p, G p = none → a ρ x (gup G p (.dT [])) fun y G1 => b ρ x G1 fun z G2 => G2 p = some (.dT []) ∧ ∃ k, y = tkD k ∧ Q (.ref p) (gup G2 p (.dT [(k, z)]))
theorem pd_dispT (hu : X.A.units + 64 < cLine) (ha : PD X W k da) (hb : PD X W v db) : PD X W (.Dict [some k] [v] pos) (dDispT da db) :=
  PE.imp (pe_dispT (by omega) ha hb) fun σ H Q ⟨Z, ρ, x, G, Qd, sr, hr, h, c, xo⟩ p hp => by
    have f0 : Fr G H (gup G p (.dT [])) (upd H p (.dT [])) := Fr.newT hp
    refine ⟨Z, ρ, x, _, _, sr.mono f0, hr.newT (m := .dT []) hp ⟨[], upd_same, .nil⟩, h p (hr.free hp), fun y yv G1 H1 f1 r1 d1 q1 => ⟨Z, ρ, x, G1, _, sr.mono (f0.trans f1), r1, q1, fun z zv G2 H2 f2 r2 d2 ⟨g, k, ek, q⟩ => ?_, xo.mono (f0.trans f1)⟩, xo.mono f0⟩
    subst ek
    have d1' := d1.mono f2
    cases d1' with
    | tup n1 g1 h1 z1 rr =>
      rename_i b vs
      obtain rfl := kDs_V rr
      obtain ⟨ks, h2, rk⟩ := r2.at_ _ _ g
      cases rk
      refine ⟨h2, b, k, rfl, h1, ?_⟩
      have f3 : Fr G2 H2 (gup G2 p (.dT [(k, z)])) (upd H2 p (.dT [(k, zv)])) := Fr.put g
      exact c (.ref p) _ _ _ (f0.trans (f1.trans (f2.trans f3))) (r2.put g ⟨_, upd_same, .cons ⟨rfl, d2.mono f3⟩ .nil⟩) (.ref p) q
end
end TD
/-! # TD, 21: for .. in d.items(), d.values(), d of tuple keys -/
namespace TD
open PySem PySem.Spec PyProof.Rows L2
/-- the values -/
def Itdt (d : Addr) (o : Obj) (kvs : List (List Key × V)) : It :=
  ⟨fun i H => H d = some (.frz o (.dT kvs)) ∧ i < kvs.length, fun i H x H' => H' = H ∧ ∃ k, kvs[i]? = some (k, x), fun i H => H d = some (.frz o (.dT kvs)) ∧ kvs.length ≤ i⟩
/-- the pairs, each a new tuple -/
def Itit (d : Addr) (o : Obj) (kvs : List (List Key × V)) : It :=
  ⟨fun i H => H d = some (.frz o (.dT kvs)) ∧ i < kvs.length, fun i H x H' => ∃ T k v q, kvs[i]? = some (k, v) ∧ x = .ref T ∧ H T = none ∧ H q = some (.tup (k.map kV)) ∧ H' = upd H T (.tup [.ref q, v]), fun i H => H d = some (.frz o (.dT kvs)) ∧ kvs.length ≤ i⟩
theorem frzT2 {X : Cx} {pins : List (Addr × Obj)} {σ : L2.St} {H : Hp} {s : Shared} {d : Addr} {o : Obj} {kvs : List (List Key × V)} (I : Inv X pins σ H s) (h : H d = some (.frz o (.dT kvs))) :
    (d == sysModules) = false ∧ s.heap.get? d = some o ∧ o.ExactDict ∧ ∃ (es : Array DictEntry) (ep : Nat), o.data = .dict es ep ∧ es.size = kvs.length ∧
      ∀ (i : Nat) (k : List Key) (v : V), kvs[i]? = some (k, v) → ∃ (en : DictEntry) (q : Addr), es[i]? = some en ∧ en.key = .ref q ∧ H q = some (.tup (k.map kV)) ∧ RelV v en.val := by
  obtain ⟨hd, z, hs, xs, pr, o', es, ep, ho, hx, hdt, he, _⟩ := I.hok d _ h
  rw [hd] at ho
  cases ho
  refine ⟨hs, hd, hx, es, ep, hdt, ?_, fun i k v e => ?_⟩
  · have l1 : es.size = xs.length := size_of_entries he
    have l2 : kvs.length = xs.length := Paired.length pr
    omega
  · obtain ⟨b, hb, e1, e2, e3⟩ := paired_get pr e
    have q := entry_at he i
    rw [hb] at q
    exact ⟨_, b.2.1, q, rfl, e2, e3⟩
theorem arr_at {α : Type} {es : Array α} {i : Nat} {en : α} (h : es[i]? = some en) : ∃ hi : i < es.size, es[i] = en := by
  obtain ⟨hi, e⟩ := Array.getElem?_eq_some_iff.mp h
  exact ⟨hi, e⟩
section
variable {P : Program} {w : World} {K : PySem.W.Frag} {tg : Expr} {d : Addr} {o : Obj} {es : Array DictEntry} {ep : Nat}
theorem turn_valsT {kvs : List (List Key × V)} (it : Addr) (hod : o.data = .dict es ep) : Turn P w K tg (Itdt d o kvs) [it] it (fun i h => h.IsValIter it d i kvs.length ep) where
  mem := by simp
  obj := fun i h st b hb => by
    have e : b = it := by simpa using hb
    subst e
    obtain ⟨oi, e, c, dd⟩ := st
    exact ⟨oi, e, fun v z => by rw [dd] at z; cases z⟩
  keep := fun i h h' st k => st.at fun oi e => k it (by simp) oi e
  item := by
    intro X hP hw hK hc i pins s σ H E I hf st hg
    subst hP hw hK
    obtain ⟨hd, hi⟩ := hg
    obtain ⟨f0, f1, f2, f3, f4, f5⟩ := hf it (by simp)
    obtain ⟨hs, hgd, hx, es', ep', hdt, hsz, ent⟩ := frzT2 I hd
    obtain ⟨rfl, rfl⟩ := dict_ep hod hdt
    obtain ⟨⟨k, v⟩, hkv⟩ : ∃ p, kvs[i]? = some p := ⟨kvs[i], List.getElem?_eq_getElem hi⟩
    obtain ⟨en, q, hen, hkey, hq, rv⟩ := ent i k v hkv
    obtain ⟨hie, een⟩ := arr_at hen
    rw [← hsz] at st
    refine wpAny_pyNext_values_item_raw st ⟨_, hgd, hx, hdt⟩ hie fun h' st' sb => ?_
    have I1 : Inv X pins σ H { s with heap := h' } := I.turned (t' := s.toks) (fun b ob hb e => (sb.2 b hb).trans e) f0 f1 f3 f4 f5
    obtain ⟨oi, e, c, dd⟩ := id st'
    refine ⟨_, rfl, go_of (s := { s with heap := h' }) e c dd (by decide) ⟨v, H, I1, by rw [een]; exact rv, ⟨rfl, k, hkv⟩, ?_, fun b hb => (hf b hb).1⟩⟩
    show h'.IsValIter it d (i + 1) kvs.length _
    rw [← hsz]
    exact st'
  done := by
    intro X hP hw hK hc i pins s σ H E I hf st hg
    subst hP hw hK
    obtain ⟨hd, hi⟩ := hg
    obtain ⟨f0, f1, f2, f3, f4, f5⟩ := hf it (by simp)
    obtain ⟨hs, hgd, hx, es', ep', hdt, hsz, ent⟩ := frzT2 I hd
    obtain ⟨rfl, rfl⟩ := dict_ep hod hdt
    rw [← hsz] at st
    exact wpAny_pyNext_values_end_raw (I.ok.hd hc) st ⟨_, hgd, hx, hdt⟩ (by omega) fun h' eb => ⟨rfl, I.turned (t' := s.toks) (fun b ob hb e => eb b ob hb e) f0 f1 f3 f4 f5⟩
  self := fun A i s Q E st h => wpAny_pyIter_valiter st h
theorem turn_itemsT {kvs : List (List Key × V)} {elts : List Expr} {kk : Nat} {tpos : Pos} (it : Addr) (hod : o.data = .dict es ep) :
    Turn P w K (.Tuple elts kk tpos) (Itit d o kvs) [it] it (fun i h => ∃ ok ov, IsItemIter h it d i kvs.length ep ok ov) where
  mem := by simp
  obj := fun i h st b hb => by
    have e : b = it := by simpa using hb
    subst e
    obtain ⟨ok, ov, e⟩ := st
    exact ⟨_, e, fun v z => nomatch z⟩
  keep := fun i h h' st k => let ⟨ok, ov, e⟩ := st; ⟨ok, ov, k it (by simp) _ e⟩
  item := by
    intro X hP hw hK hc i pins s σ H E I hf st hg
    subst hP hw hK
    obtain ⟨hd, hi⟩ := hg
    obtain ⟨hs, hgd, hx, es', ep', hdt, hsz, ent⟩ := frzT2 I hd
    obtain ⟨rfl, rfl⟩ := dict_ep hod hdt
    obtain ⟨⟨k, v⟩, hkv⟩ : ∃ p, kvs[i]? = some p := ⟨kvs[i], List.getElem?_eq_getElem hi⟩
    obtain ⟨en, q, hen, hkey, hq, rv⟩ := ent i k v hkv
    obtain ⟨hie, een⟩ := arr_at hen
    obtain ⟨ok, ov, he⟩ := st
    rw [← hsz] at he
    have hlt : it < s.heap.objs.size := Heap.lt_size he
    refine wpAny_pyNext_items_item_raw he ⟨_, hgd, hx, hdt⟩ hie fun h' ho hT hz hk => ?_
    rw [een, hkey] at ho hT
    refine ⟨_, rfl, wpAny_letOwnedTupleGo_items (s := { s with heap := h' }) ho fun h'' he' sb => ?_⟩
    have hT2 : h''.get? s.heap.objs.size = some { cls := .type "tuple", data := .seq #[.ref q, en.val] } := (sb.2 _ (Nat.ne_of_gt hlt)).trans hT
    have new : ObjOk X.prog X.w (upd H s.heap.objs.size (.tup [.ref q, v])) h'' s.heap.objs.size (.tup [.ref q, v]) :=
      ⟨by show 2 ≤ sizeLine; decide, [.ref q, en.val], .cons rfl (.cons rv .nil), ⟨_, hT2, rfl, _, rfl⟩⟩
    have I1 : Inv X pins σ (upd H s.heap.objs.size (.tup [.ref q, v])) { s with heap := h'' } :=
      I.turnedNew (t' := s.toks) (ch := [it]) (fun b ob hb e => (sb.2 b (by simpa using hb)).trans (hk b ob (by simpa using hb) e)) hf (Nat.le_refl _) new
    refine ⟨.ref s.heap.objs.size, _, I1, rfl, ⟨_, k, v, q, hkv, rfl, I.hok.fresh (Nat.le_refl _), hq, rfl⟩, ⟨.ref q, en.val, ?_⟩, fun b hb => ?_⟩
    · rw [← hsz]; exact he'
    · have e : b = it := by simpa using hb
      rw [e, upd_ne (Nat.ne_of_lt hlt)]
      exact (hf it (by simp)).1
  done := by
    intro X hP hw hK hc i pins s σ H E I hf st hg
    subst hP hw hK
    obtain ⟨hd, hi⟩ := hg
    obtain ⟨f0, f1, f2, f3, f4, f5⟩ := hf it (by simp)
    obtain ⟨hs, hgd, hx, es', ep', hdt, hsz, ent⟩ := frzT2 I hd
    obtain ⟨rfl, rfl⟩ := dict_ep hod hdt
    obtain ⟨ok, ov, he⟩ := st
    rw [← hsz] at he
    exact wpAny_pyNext_items_end_raw (I.ok.hd hc) he ⟨_, hgd, hx, hdt⟩ (by omega) fun h' eb => ⟨rfl, I.turned (t' := s.toks) (fun b ob hb e => eb b ob hb e) f0 f1 f3 f4 f5⟩
  self := fun A i s Q E st h => let ⟨_, _, e⟩ := st; PySem.W.kcp_self e h
end
/-- the dict is told; it is locked from then on -/
def iValsT (td : TE) : TI := fun σ H R => td σ H fun x H1 => ∃ d kvs, x = .ref d ∧ H1 d = some (.dT kvs) ∧ ∀ o, R (Itdt d o kvs) (upd H1 d (.frz o (.dT kvs)))
def iItemsT (td : TE) : TI := fun σ H R => td σ H fun x H1 => ∃ d kvs, x = .ref d ∧ H1 d = some (.dT kvs) ∧ ∀ o, R (Itit d o kvs) (upd H1 d (.frz o (.dT kvs)))
section
variable {X : Cx} {W : WX} {tg e : Expr} {td : TE} {apos cpos : Pos} {a : DE}
theorem pi_valuesT (he : PE X e td) (hbase : attributeBase e "values" X.env (eval e X.env) = eval e X.env := by rfl) (hline : (apos.endLine == cpos.line) = true := by rfl) : PI X tg (.Call (.Attribute e "values" apos) [] [] cpos) (iValsT td) := by
  refine ⟨fun pins s σ H R I h => ?_⟩
  refine wpAny_Call_method (T := "dict") (id := "dict.values") hbase rfl hline F.plainAttrs_dict F.slot_dict_values F.type_dict_values (thn (he.run pins s σ H _ I h) fun u s1 ⟨x, H1, I1, rx, d, kvs, ex, hd, q⟩ => ?_)
  subst ex
  obtain rfl : u = Value.ref d := rx
  obtain ⟨t1, t2, _⟩ := isD_at I1 (.inr ⟨kvs, .inl hd⟩)
  obtain ⟨o, I1'⟩ := I1.lock hd True.intro
  obtain ⟨hs, hgd, hx, es, ep, hdt, hsz, ent⟩ := frzT2 I1' upd_same
  refine ⟨t1, t2, ?_⟩
  have raw : s1.heap.DictRaw d es ep := ⟨o, hgd, hx, hdt⟩
  have I2 : Inv X pins σ (upd H1 d (.frz o (.dT kvs))) { s1 with heap := s1.heap.push { cls := .type "dict_values", data := .fields #[.ref d] } } := I1'.kept (t' := s1.toks) fun b ob q => Heap.get?_push_of_some _ q
  have fin : wpAny (model X.prog X.w) X.A (pyIter (.ref s1.heap.objs.size)) (PIE X pins σ tg R) X.xe { s1 with heap := s1.heap.push { cls := .type "dict_values", data := .fields #[.ref d] } } := by
    refine wpAny_pyIter_values_raw (d := d) ⟨_, Heap.get?_push_size _ rfl, rfl, rfl⟩ (raw.at fun ob q => Heap.get?_push_of_some _ q) (pi_one (tk := s1.toks) I2 _ (turn_valsT _ hdt) ⟨_, Heap.get?_push_size _ rfl, rfl, ?_⟩ (q o))
    rw [← hsz] <;> rfl
  show wpAny _ _ (callWith cpos (.builtin "dict.values") [.ref d] [] []) _ X.xe s1
  exact method_meetsIn F.slot_dict_values F.entry_dict_values rfl (PySem.evalArgs_none ⟨rfl, t1, F.args_dict_values_1 _, _, meets_dict_values_raw d hs, ⟨es, ep, raw⟩, fin⟩)
theorem pi_itemsT {elts : List Expr} {kk : Nat} {tpos : Pos} (he : PE X e td) (hbase : attributeBase e "items" X.env (eval e X.env) = eval e X.env := by rfl) (hline : (apos.endLine == cpos.line) = true := by rfl) :
    PI X (.Tuple elts kk tpos) (.Call (.Attribute e "items" apos) [] [] cpos) (iItemsT td) := by
  refine ⟨fun pins s σ H R I h => ?_⟩
  refine wpAny_Call_method (T := "dict") (id := "dict.items") hbase rfl hline F.plainAttrs_dict F.slot_dict_items F.type_dict_items (thn (he.run pins s σ H _ I h) fun u s1 ⟨x, H1, I1, rx, d, kvs, ex, hd, q⟩ => ?_)
  subst ex
  obtain rfl : u = Value.ref d := rx
  obtain ⟨t1, t2, _⟩ := isD_at I1 (.inr ⟨kvs, .inl hd⟩)
  obtain ⟨o, I1'⟩ := I1.lock hd True.intro
  obtain ⟨hs, hgd, hx, es, ep, hdt, hsz, ent⟩ := frzT2 I1' upd_same
  refine ⟨t1, t2, ?_⟩
  have raw : s1.heap.DictRaw d es ep := ⟨o, hgd, hx, hdt⟩
  have I2 : Inv X pins σ (upd H1 d (.frz o (.dT kvs))) { s1 with heap := s1.heap.push { cls := .type "dict_items", data := .fields #[.ref d] } } := I1'.kept (t' := s1.toks) fun b ob q => Heap.get?_push_of_some _ q
  have fin : wpAny (model X.prog X.w) X.A (pyIter (.ref s1.heap.objs.size)) (PIE X pins σ (.Tuple elts kk tpos) R) X.xe { s1 with heap := s1.heap.push { cls := .type "dict_items", data := .fields #[.ref d] } } := by
    refine wpAny_pyIter_items_raw (d := d) ⟨_, Heap.get?_push_size _ rfl, rfl, rfl⟩ (raw.at fun ob q => Heap.get?_push_of_some _ q) (pi_one (tk := s1.toks) I2 _ (turn_itemsT _ hdt) ⟨.none, .none, ?_⟩ (q o))
    rw [← hsz]
    exact Heap.get?_push_size _ rfl
  show wpAny _ _ (callWith cpos (.builtin "dict.items") [.ref d] [] []) _ X.xe s1
  exact method_meetsIn F.slot_dict_items F.entry_dict_items rfl (PySem.evalArgs_none ⟨rfl, t1, F.args_dict_items_1 _, _, meets_dict_items_raw d hs, ⟨es, ep, raw⟩, fin⟩)
/-! data -/
def dIValsT (a : DE) : DI := fun ρ x G R => a ρ x G fun l G1 => ∃ p kvs, l = .ref p ∧ kvs.length ≤ sizeLine ∧ G1 p = some (.dT kvs) ∧ ∀ o ks, R (kvs.map fun kv => kv.2) (fun G => G p = some (.fT o ks kvs)) (gup G1 p (.fT o ks kvs))
def dIItemsT (a : DE) : DI := fun ρ x G R => a ρ x G fun l G1 => ∃ p kvs, l = .ref p ∧ kvs.length ≤ sizeLine ∧ (∀ kv ∈ kvs, kv.1.length ≤ sizeLine) ∧ G1 p = some (.dT kvs) ∧ ∀ o ks, R (kvs.map fun kv => .tup [tkD kv.1, kv.2]) (fun G => G p = some (.fT o ks kvs)) (gup G1 p (.fT o ks kvs))
theorem it_valsT {K : PySem.W.Frag} {Z : Addr → Prop} {p : Addr} {o : Obj} {ks : List (List Key × V)} {kvs : List (List Key × D)} {G0 : GH} {H0 : Hp} (hr : HR K Z G0 H0) (g : G0 p = some (.fT o ks kvs)) (hz : kvs.length ≤ sizeLine) :
    ItOk K Z (Itdt p o ks) (kvs.map fun kv => kv.2) G0 H0 (fun G => G p = some (.fT o ks kvs)) := by
  have len : (kvs.map fun kv => kv.2).length = kvs.length := List.length_map _
  have l2 : kvs.length = ks.length := (hr.at_ _ _ g).2.length
  refine ⟨by rw [len]; exact hz, fun Z' i G H up f r gd hi => ⟨(r.at_ _ _ gd).1, by rw [len] at hi; omega⟩, fun Z' G H up f r gd => ⟨(r.at_ _ _ gd).1, by rw [len]; omega⟩, fun Z' i G H x H' up f r gd hi y => ?_⟩
  obtain ⟨e1, k, e2⟩ := y
  subst e1
  obtain ⟨d, h1, dv⟩ := (r.at_ _ _ gd).2.getV e2
  exact ⟨d, by rw [List.getElem?_map, h1]; rfl, Fr.refl _ _, r, dv⟩
theorem it_itemsT {K : PySem.W.Frag} {Z : Addr → Prop} {p : Addr} {o : Obj} {ks : List (List Key × V)} {kvs : List (List Key × D)} {G0 : GH} {H0 : Hp} (hr : HR K Z G0 H0) (g : G0 p = some (.fT o ks kvs)) (hz : kvs.length ≤ sizeLine) (hk : ∀ kv ∈ kvs, kv.1.length ≤ sizeLine) :
    ItOk K Z (Itit p o ks) (kvs.map fun kv => .tup [tkD kv.1, kv.2]) G0 H0 (fun G => G p = some (.fT o ks kvs)) := by
  have len : (kvs.map fun kv => D.tup [tkD kv.1, kv.2]).length = kvs.length := List.length_map _
  have l2 : kvs.length = ks.length := (hr.at_ _ _ g).2.length
  refine ⟨by rw [len]; exact hz, fun Z' i G H up f r gd hi => ⟨(r.at_ _ _ gd).1, by rw [len] at hi; omega⟩, fun Z' G H up f r gd => ⟨(r.at_ _ _ gd).1, by rw [len]; omega⟩, fun Z' i G H x H' up f r gd hi y => ?_⟩
  obtain ⟨T, k, v, q, e2, rfl, hT, hq, rfl⟩ := y
  obtain ⟨d, h1, dv⟩ := (r.at_ _ _ gd).2.getV e2
  have fN : Fr G H G (upd H T (.tup [.ref q, v])) := Fr.new hT
  have rN : HR K Z' G (upd H T (.tup [.ref q, v])) := r.new hT
  obtain ⟨z1, g1⟩ := r.tupZ hq
  refine ⟨_, by rw [List.getElem?_map, h1]; rfl, fN, rN, ?_⟩
  have hkl : k.length ≤ sizeLine := hk (k, d) (List.mem_of_getElem? h1)
  refine .tup (r.noZ hT) (r.free hT) upd_same (by show 2 ≤ sizeLine; decide) (.cons ?_ (.cons (dv.mono fN) .nil))
  exact (DV.tup z1 g1 hq (by rw [List.length_map]; exact hkl) (kDs_D k)).mono fN
theorem pdi_valsT (ha : PD X W e a) (hbase : attributeBase e "values" X.env (eval e X.env) = eval e X.env := by rfl) (hline : (apos.endLine == cpos.line) = true := by rfl) : PDI X W tg (.Call (.Attribute e "values" apos) [] [] cpos) (dIValsT a) :=
  PI.imp (pi_valuesT ha hbase hline) fun σ H R ⟨Z, ρ, x, G, Qd, sr, hr, h, c, xo⟩ => ⟨Z, ρ, x, G, _, sr, hr, h, fun l lv G1 H1 f1 r1 d1 ⟨p, kvs, el, hz, g, q⟩ => by
    subst el
    cases d1
    obtain ⟨ks, hp, pr⟩ := r1.at_ _ _ g
    refine ⟨p, ks, rfl, hp, fun o => ?_⟩
    have f2 : Fr G1 H1 (gup G1 p (.fT o ks kvs)) (upd H1 p (.frz o (.dT ks))) := Fr.put g
    have r2 : HR X.K Z (gup G1 p (.fT o ks kvs)) (upd H1 p (.frz o (.dT ks))) := r1.put g ⟨upd_same, pr.mono f2⟩
    exact c _ _ _ _ _ (f1.trans f2) r2 (it_valsT r2 gup_same hz) (q o ks), xo⟩
theorem pdi_itemsT {elts : List Expr} {kk : Nat} {tpos : Pos} (ha : PD X W e a) (hbase : attributeBase e "items" X.env (eval e X.env) = eval e X.env := by rfl) (hline : (apos.endLine == cpos.line) = true := by rfl) :
    PDI X W (.Tuple elts kk tpos) (.Call (.Attribute e "items" apos) [] [] cpos) (dIItemsT a) :=
  PI.imp (pi_itemsT ha hbase hline) fun σ H R ⟨Z, ρ, x, G, Qd, sr, hr, h, c, xo⟩ => ⟨Z, ρ, x, G, _, sr, hr, h, fun l lv G1 H1 f1 r1 d1 ⟨p, kvs, el, hz, hk, g, q⟩ => by
    subst el
    cases d1
    obtain ⟨ks, hp, pr⟩ := r1.at_ _ _ g
    refine ⟨p, ks, rfl, hp, fun o => ?_⟩
    have f2 : Fr G1 H1 (gup G1 p (.fT o ks kvs)) (upd H1 p (.frz o (.dT ks))) := Fr.put g
    have r2 : HR X.K Z (gup G1 p (.fT o ks kvs)) (upd H1 p (.frz o (.dT ks))) := r1.put g ⟨upd_same, pr.mono f2⟩
    exact c _ _ _ _ _ (f1.trans f2) r2 (it_itemsT r2 gup_same hz hk) (q o ks), xo⟩
end
end TD
/-! # TD, 22: item += of a told list; while; pop(i) -/
namespace TD
open PySem PySem.Spec PyProof.Rows L2
/-! ### o[i] += e -/
def rGetL : V → V → Hp → VK → Prop := fun o i H Q => ∃ p xs j v, o = .ref p ∧ i = .int ((j : Nat) : Int) ∧ H p = some (.lst xs) ∧ xs[j]? = some v ∧ Q v H
section
variable {X : Cx} {W : WX} {e o i : Expr} {a da do_ di : DE} {pos p' : Pos}
theorem get_list : PGet X rGetL := by
  intro pins s σ H o i ov iv Q I ro ri h
  obtain ⟨p, xs, j, v, rfl, rfl, hp, hv, q⟩ := h
  cases ro
  obtain ⟨t, rfl⟩ := ri
  obtain ⟨its, n, r, ho, hz⟩ := I.lst hp
  obtain ⟨u, hu, ru⟩ := r.get hv
  have hj : j < xs.length := (List.getElem?_eq_some_iff.mp hv).1
  rw [sizeLine_eq] at hz
  exact getItem_listL (l := its) ⟨_, ho, rfl, _, rfl⟩ (by omega) (by omega) (by simpa using hu) ⟨v, H, I, ru, q⟩
/-- o[i] += e, o a told list of ints -/
def dAugL (o i e : DE) (f : Int → Int → Int) : DS := fun D ρ G => o ρ (D.xx ρ) G fun l G1 => i ρ (D.xx ρ) G1 fun k G2 => ∃ p xs j v, l = .ref p ∧ k = .int ((j : Nat) : Int) ∧ G2 p = some (.lst xs) ∧ xs[j]? = some (.int v) ∧
  e ρ (D.xx ρ) G2 fun y G3 => ∃ m xs', y = .int m ∧ G3 p = some (.lst xs') ∧ j < xs'.length ∧ D.nx ρ (gup G3 p (.lst (xs'.set j (.int (f v m)))))
theorem ixN_nat {n j : Nat} (h : j < n) : ixN n (j : Int) = some j := by
  unfold ixN
  rw [if_pos (by omega), if_pos (by omega)]
  simp
theorem low_augL {K : PySem.W.Frag} {f : Int → Int → Int} : ∀ E σ H, lowS K W (dAugL do_ di da f) E σ H → tAugS (lowE K W do_) (lowE K W di) (lowE K W da) rGetL (ipI f) rSetL E σ H := fun E σ H ⟨Z, ρ, G, Dd, sr, hr, h, ok⟩ =>
  ⟨Z, ρ, Dd.xx ρ, G, _, sr, hr, h, fun l lv G1 H1 f1 r1 d1 q1 => ⟨Z, ρ, Dd.xx ρ, G1, _, sr.mono f1, r1, q1, fun k kv G2 H2 f2 r2 d2 ⟨p, xs, j, v, el, ek, g, hv, q2⟩ => by
    subst el ek
    cases d1
    cases d2
    obtain ⟨vs, hp, rv, hz⟩ := r2.at_ _ _ g
    obtain ⟨u, hu, du⟩ := rv.get hv
    cases du
    refine ⟨p, vs, j, .int v, rfl, rfl, hp, hu, Z, ρ, Dd.xx ρ, G2, _, sr.mono (f1.trans f2), r2, q2, fun y yv G3 H3 f3 r3 d3 ⟨m, xs', ey, g3, hj, q⟩ => ?_, (ok.xo sr).mono (f1.trans f2)⟩
    subst ey
    cases d3
    obtain ⟨vs', hp', rv', hz'⟩ := r3.at_ _ _ g3
    refine ⟨v, m, rfl, rfl, p, vs', _, j, rfl, rfl, hp', by rw [← rv'.length]; exact ixN_nat hj, ?_⟩
    have f4 : Fr G3 H3 (gup G3 p (.lst (xs'.set j (.int (f v m))))) (upd H3 p (.lst (vs'.set j (.int (f v m))))) := Fr.put g3
    have r4 : HR K Z (gup G3 p (.lst (xs'.set j (.int (f v m))))) (upd H3 p (.lst (vs'.set j (.int (f v m))))) := r3.put g3 ⟨_, upd_same, (rv'.mono f4).set (.int _) j, by rw [List.length_set]; exact hz'⟩
    exact ok.nx ρ σ _ _ (f1.trans (f2.trans (f3.trans f4))) r4 (sr.mono (f1.trans (f2.trans (f3.trans f4)))) q, (ok.xo sr).mono f1⟩, ok.xo sr⟩
theorem pds_augL {op : Operator} {f : Int → Int → Int} {tpos : Pos} (hp : PIp X op (ipI f)) (ho : PD X W o do_) (hi : PD X W i di) (he : PD X W e da)
    (ha : ∀ ov iv new, augStore i ov iv new = (do holding [new, ov, iv] (setItem ov iv new); release [new, ov, iv] []; pure .next) := by intros; rfl) : PDS X W (.AugAssign (.Subscript o i tpos) op e pos) (dAugL do_ di da f) :=
  PS.imp (ps_augS ho hi get_list he hp set_list ha) low_augL
/-! ### while -/
def dWhile (c : DT) (b : DS) : DS := fun D ρ G => ∃ Wd : Nat → Rho → GH → Prop, (∃ m, Wd m ρ G) ∧ ∀ m ρ G, Wd m ρ G → c ρ (D.xx ρ) G fun k G1 => if k = true then ∃ N : Rho → GH → Prop, (∀ ρ' G', N ρ' G' → ∃ m', m' < m ∧ Wd m' ρ' G') ∧ b { D with nx := N, ct := N, bk := D.nx } ρ G1 else D.nx ρ G1
theorem low_while {K : PySem.W.Frag} {c : DT} {b : DS} : ∀ E σ H, lowS K W (dWhile c b) E σ H → tWhile (lowT K W c) (lowS K W b) E σ H := fun E σ H ⟨Z, ρ, G, Dd, sr, hr, ⟨Wd, ⟨m0, w0⟩, turn⟩, ok⟩ =>
  ⟨fun m σ' H' => ∃ ρ' G', Fr G H G' H' ∧ HR K Z G' H' ∧ SR K Z G' H' ρ' σ' ∧ Wd m ρ' G', ⟨m0, ρ, G, Fr.refl G H, hr, sr, w0⟩, fun m σ1 H1 ⟨ρ1, G1, f1, r1, s1, w1⟩ =>
    ⟨Z, ρ1, Dd.xx ρ1, G1, _, s1, r1, turn m ρ1 G1 w1, fun k G2 H2 f2 r2 q2 => by
      have ok2 := ok.mono (f1.trans f2)
      cases k with
      | false => exact ok2.nx ρ1 σ1 G2 H2 (Fr.refl _ _) r2 (s1.mono f2) q2
      | true =>
        obtain ⟨N, hN, q2⟩ := q2
        refine ⟨fun σ' H' => ∃ ρ' G', Fr G H G' H' ∧ HR K Z G' H' ∧ SR K Z G' H' ρ' σ' ∧ N ρ' G', fun σ' H' ⟨ρ', G', f, r, s, n⟩ => let ⟨m', l, w⟩ := hN ρ' G' n; ⟨m', l, ρ', G', f, r, s, w⟩, Z, ρ1, G2, _, s1.mono f2, r2, q2, ?_⟩
        exact ⟨fun ρ' σ' G' H' f r s n => ⟨ρ', G', (f1.trans f2).trans f, r, s, n⟩, ok2.rt, fun ρ' σ' G' H' f r s n => ok2.nx ρ' σ' G' H' f r s n, fun ρ' σ' G' H' f r s n => ⟨ρ', G', (f1.trans f2).trans f, r, s, n⟩, ok2.xx⟩, (ok.mono f1).xo s1⟩⟩
theorem pds_while {c : Expr} {body : List Stmt} {dc : DT} {db : DS} (hp : PassesOwn (model X.prog X.w) X.A X.env X.xe) (hc : PDT X W c dc) (hb : PDSs X W body db) : PDS X W (.While c body [] pos) (dWhile dc db) :=
  PS.imp (ps_while hp hc hb) low_while
end
/-! ### pop(i) -/
def rdPopI : RDM := fun z zs G Q => ∃ a xs j y, z = .ref a ∧ zs = [.int ((j : Nat) : Int)] ∧ G a = some (.lst xs) ∧ xs[j]? = some y ∧ Q y (gup G a (.lst (xs.eraseIdx j)))
theorem mth_popI {K : PySem.W.Frag} : MthL K "list" rPopAt rdPopI := by
  rintro Z z zs v vs G H Qd Q hr dz ds ⟨a, xs, j, y, rfl, rfl, g, hy, q⟩ c
  cases dz
  obtain ⟨w, rfl, dw⟩ := ds.one
  cases dw
  obtain ⟨ws, h1, r1, z1⟩ := hr.at_ _ _ g
  obtain ⟨u, hu, du⟩ := r1.get hy
  have hj : j < ws.length := (List.getElem?_eq_some_iff.mp hu).1
  have z2 := z1
  rw [sizeLine_eq] at z2
  refine ⟨a, ws, _, j, u, rfl, rfl, h1, by omega, by omega, (ixN_seq (ixN_nat hj)).1, hu, ?_⟩
  have f : Fr G H (gup G a (.lst (xs.eraseIdx j))) (upd H a (.lst (ws.eraseIdx j))) := Fr.put g
  exact c y u _ _ f (hr.put g ⟨_, upd_same, (r1.mono f).eraseIdx j, Nat.le_trans (List.length_eraseIdx_le ws j) z1⟩) (du.mono f) q
end TD
/-! # TD, 23: k in d -/
namespace TD
open PySem PySem.Spec PyProof.Rows L2
def rDIn : R2 := fun y x H Q => ∃ a o, x = V.ref a ∧ DGet H a y o ∧ Q (.bl o.isSome) H
theorem op_din {X : Cx} (hu : X.A.units + 64 < cLine) : OpR X (compareOp .In) rDIn := by
  intro pins s σ H x y v u Q I rx ry h
  obtain ⟨a, o, rfl, g, q⟩ := h
  obtain rfl : u = Value.ref a := ry
  exact d_in (by omega) I g rx fun s' I' => ⟨.bl o.isSome, H, I', rfl, q⟩
def rdDInP : RD2 := fun y z G Q => ∃ a k kvs, z = .ref a ∧ y = kD k ∧ DAt G a kvs ∧ Q (.bl (valD kvs k).isSome) G
theorem opl_din {K : PySem.W.Frag} : OpL K rDIn rdDInP := by
  rintro Z z y vz vy G H Qd Q hr dz dy ⟨a, k, kvs, rfl, rfl, g, q⟩ c
  cases dy
  obtain ⟨ks, h1, r1⟩ := g.rd hr
  obtain rfl := kD_V dz
  cases e : valD kvs k with
  | none =>
    rw [e] at q
    exact ⟨a, none, rfl, .inl ⟨ks, k, h1, rfl, (r1.noval e).symm⟩, Ret.here c hr (.bl _) q⟩
  | some d =>
    rw [e] at q
    obtain ⟨v, h2, r2⟩ := r1.val e
    exact ⟨a, some v, rfl, .inl ⟨ks, k, h1, rfl, h2.symm⟩, Ret.here c hr (.bl _) q⟩
end TD
/-! # TD, 24: sum of a tuple of ints -/
namespace TD
open PySem PySem.Spec PySem.W PySem.Calls PyProof.Rows L2
def rSumT (K : PySem.W.Frag) : List V → Hp → VK → Prop := fun vs H Q => ∃ (a : Addr) (ns : List Int), vs = [V.ref a] ∧ SqT K H a (ns.map V.int) ∧ Q (.int ns.sum) H
theorem cr_sumT {X : Cx} (hc : X.calm = true) : CallR X (.builtin "sum") (rSumT X.K) := by
  intro pins s σ H vs us Q I r h
  obtain ⟨a, ns, rfl, hs, q⟩ := h
  obtain ⟨its, rv, ht, _⟩ := I.tuple hs
  rw [Vals.ref1 r]
  obtain ⟨xs, hx⟩ := rv.ints.allInts.items
  have hn : numsOf its.toArray.toList = ns := by rw [show its.toArray.toList = its from rfl, rv.ints.numsOf]
  rw [hx] at ht hn
  rw [nums_intItems] at hn
  refine ktm_sumG (I.ok.hd hc) ht fun h' tk t' hk => ?_
  rw [preSum_eq, List.take_of_length_le (by simp), hn]
  exact ⟨.int _, H, I.kept hk, ⟨_, rfl⟩, q⟩
def rdSumT : RDC := fun zs G Q => ∃ ns : List Int, zs = [.tup (ns.map D.int)] ∧ Q (.int ns.sum) G
theorem cll_sumT {K : PySem.W.Frag} : CallL K (rSumT K) rdSumT := by
  rintro Z zs vs G H Qd Q hr ds ⟨ns, rfl, q⟩ c
  obtain ⟨v, rfl, d⟩ := ds.one
  cases d with
  | tup n1 g1 h1 z1 r1 => exact ⟨_, ns, rfl, by rw [← r1.ints]; exact SqT.of h1, Ret.int c hr q⟩
end TD
/-! # TD, 25: instances of own classes -/
namespace TD
open PySem PySem.Spec PyProof.Rows L2
/-! ### fields -/
def putD_ (f : Str) (v : D) : List (Str × D) → List (Str × D)
  | [] => [(f, v)]
  | (g, x) :: r => if g = f then (g, v) :: r else (g, x) :: putD_ f v r
section
variable {K : PySem.W.Frag} {Z : Addr → Prop} {G : GH} {H : Hp}
theorem PairD.look {f : Str} {d : D} : ∀ {l : List (Str × D)} {m : List (Str × V)}, PairD K Z G H l m → l.lookup f = some d → ∃ v, m.lookup f = some v ∧ DV K Z G H d v
  | _, _, .nil, h => by cases h
  | p :: l, q :: m, .cons a b, h => by
    obtain ⟨p1, p2⟩ := p
    obtain ⟨q1, q2⟩ := q
    obtain ⟨e, dv⟩ := a
    have e : p1 = q1 := e
    subst e
    rw [List.lookup_cons] at h ⊢
    cases hb : f == p1 with
    | true =>
      rw [hb] at h
      injection h with h
      subst h
      exact ⟨q2, rfl, dv⟩
    | false =>
      rw [hb] at h
      exact PairD.look b h
theorem PairD.putF {f : Str} {d : D} {v : V} (r : DV K Z G H d v) : ∀ {l : List (Str × D)} {m : List (Str × V)}, PairD K Z G H l m → PairD K Z G H (putD_ f d l) (putF f v m)
  | _, _, .nil => .cons ⟨rfl, r⟩ .nil
  | p :: l, q :: m, .cons a b => by
    obtain ⟨p1, p2⟩ := p
    obtain ⟨q1, q2⟩ := q
    obtain ⟨e, dv⟩ := a
    have e : p1 = q1 := e
    subst e
    unfold putD_ L2.putF
    by_cases h : p1 = f
    · rw [if_pos h, if_pos h]
      exact .cons ⟨rfl, r⟩ b
    · rw [if_neg h, if_neg h]
      exact .cons ⟨rfl, dv⟩ (PairD.putF r b)
end
def dFld (C : Addr) (f : Str) (a : DE) : DE := fun ρ x G Q => a ρ x G fun z G1 => ∃ p fs d, z = .ref p ∧ G1 p = some (.ins C fs) ∧ fs.lookup f = some d ∧ Q d G1
def dSetF (C : Addr) (f : Str) (a o : DE) : DS := fun D ρ G => a ρ (D.xx ρ) G fun y G1 => o ρ (D.xx ρ) G1 fun z G2 => ∃ p fs, z = .ref p ∧ G2 p = some (.ins C fs) ∧ fs.length < 1000 ∧ D.nx ρ (gup G2 p (.ins C (putD_ f y fs)))
section
variable {X : Cx} {W : WX} {o e value : Expr} {f : Str} {pos pos' : Pos} {a da do_ : DE} {C : Addr}
theorem pd_fld (cl : Cls X.K C) (na : NoAttr X.K C f) (ha : PD X W e a) (hb : attributeBase e f X.env (eval e X.env) = eval e X.env := by rfl) : PD X W (.Attribute e f pos) (dFld C f a) := PE.imp (pe_fld ha hb) fun σ H Q ⟨Z, ρ, x, G, Qd, sr, hr, h, c, xo⟩ =>
  ⟨Z, ρ, x, G, _, sr, hr, h, fun z zv G1 H1 f1 r1 d1 ⟨p, fs, d, ez, g, hl, q⟩ => by
    subst ez
    cases d1
    obtain ⟨dx, fv, hp, pr⟩ := r1.at_ _ _ g
    obtain ⟨v, hv, dv⟩ := pr.look hl
    exact ⟨p, C, dx, fv, v, rfl, hp, cl, na, hv, c d v G1 H1 f1 r1 dv q⟩, xo⟩
theorem PairD.len {K : PySem.W.Frag} {Z : Addr → Prop} {G : GH} {H : Hp} {κ : Type} : ∀ {l : List (κ × D)} {m : List (κ × V)}, PairD K Z G H l m → l.length = m.length
  | _, _, .nil => rfl
  | _, _, .cons _ b => by rw [List.length_cons, List.length_cons, PairD.len b]
theorem pds_fld (cl : Cls X.K C) (na : NoAttr X.K C f) (ha : PD X W value da) (ho : PD X W o do_) (hs : swapsWith value (some (.Attribute o f pos')) pos.line X.env = pure false := by rfl) : PDS X W (.Assign [.Attribute o f pos'] value pos) (dSetF C f da do_) :=
  PS.imp (ps_fld ho ha hs) fun E σ H ⟨Z, ρ, G, Dd, sr, hr, h, ok⟩ => ⟨Z, ρ, Dd.xx ρ, G, _, sr, hr, h, fun y v G1 H1 f1 r1 d1 q1 =>
    ⟨Z, ρ, Dd.xx ρ, G1, _, sr.mono f1, r1, q1, fun z zv G2 H2 f2 r2 d2 ⟨p, fs, ez, g, hl, q⟩ => by
      subst ez
      cases d2
      obtain ⟨dx, fv, hp, pr⟩ := r2.at_ _ _ g
      have f3 : Fr G2 H2 (gup G2 p (.ins C (putD_ f y fs))) (upd H2 p (.ins C dx (putF f v fv))) := Fr.put g
      refine ⟨p, C, dx, fv, rfl, hp, cl, na, by rw [← pr.len]; exact hl, ?_⟩
      exact ok.nx ρ σ _ _ (f1.trans (f2.trans f3)) (r2.put g ⟨dx, _, upd_same, (pr.mono f3).putF (d1.mono (f2.trans f3))⟩) (sr.mono (f1.trans (f2.trans f3))) q, (ok.xo sr).mono f1⟩, ok.xo sr⟩
end
/-! ### C(e, ..) -/
def dMake (C : Addr) (sp : SpD) (t : DA) : DE := fun ρ x G Q => t ρ x G fun zs G1 => ∀ p, G1 p = none → sp (.ref p :: zs) (gup G1 p (.ins C [])) (fun z G2 => z = .non ∧ Q (.ref p) G2) x
section
variable {X : Cx} {W : WX} {k : Nat} {f C : Addr} {fd : FuncData} {ps : List Str} {sp : SpD} {x : Str} {p pos : Pos} {e : Expr} {es : List Expr} {t : DA}
def tMakeS (C : Addr) (sp : Sp) (E : L2.St → XK) (t : TA) : TE := fun σ H Q => t σ H fun vs H1 => ∀ x dx, H1 x = none → H1 dx = none → dx ≠ x →
  sp (.ref x :: vs) (upd (upd H1 dx (.own x)) x (.ins C dx [])) (fun v H2 => v = .non ∧ Q (.ref x) H2) (E σ)
theorem run_makeS {sp : Sp} {CX : CXT} {E : L2.St → XK} {pins : List (Addr × Obj)} {σ : L2.St} {H : Hp} {s : Shared} {Q : VK} {us : List Value} {vs : List V} (M : Mk X.K C f)
    (F : FnOk X.prog X.w X.K X.mg X.base CX k f fd ps sp) (hr : Room (k + 1) X.A) (hb : Binds X.K fd ps []) (hx : PassesAt CX X σ (E σ)) (I : Inv X pins σ H s) (r : Vals vs us)
    (h : ∀ x dx, H x = none → H dx = none → dx ≠ x → sp (.ref x :: vs) (upd (upd H dx (.own x)) x (.ins C dx [])) (fun v H2 => v = .non ∧ Q (.ref x) H2) (E σ)) :
    wpAny (model X.prog X.w) X.A (call (.ref C) us) (EP X pins σ Q) X.xe s := by
  have h1 : H (s.heap.objs.size + 1) = none := I.hok.fresh (Nat.le_succ _)
  have h2 : H s.heap.objs.size = none := I.hok.fresh (Nat.le_refl _)
  have h3 : s.heap.objs.size ≠ s.heap.objs.size + 1 := Nat.ne_of_lt (Nat.lt_succ_self _)
  have hq := h _ _ h1 h2 h3
  have I2 := Inv.made (C := C) I
  have r2 : Vals (V.ref (s.heap.objs.size + 1) :: vs) (Value.ref (s.heap.objs.size + 1) :: us) := .cons rfl r
  have hl : (Value.ref (s.heap.objs.size + 1) :: us).length = ps.length := r2.length.symm.trans (F.len _ _ _ _ hq)
  have b := hb _ (Value.ref (s.heap.objs.size + 1) :: us) I2.kIn (by rw [List.append_nil]; exact hl)
  rw [List.append_nil] at b
  have go := F.run _ X.stack _ _ ⟨Value.ref (s.heap.objs.size + 1) :: us, []⟩ _ _ _ (E σ) (hr.make C us []) (I2.env0.make C us []) b r2 hq
  refine wpAny_call (make_map (f := f) I.kIn M.makes M.init (beq_iff_eq.mp M.fn) (codeAny_mono go fun a s' ha => ?_))
  cases a with
  | error e => exact hx pins _ _ e s' I2 ha
  | ok fl =>
    cases fl with
    | ret u =>
      obtain ⟨v, H', I3, rv, ev, q3⟩ := I2.after ha
      subst ev
      exact ⟨rv, ⟨V.ref _, H', I3, rfl, q3⟩⟩
    | next => exact ha.elim
    | brk => exact ha.elim
    | cont => exact ha.elim
theorem pe_makeS {sp : Sp} {CX : CXT} {E : L2.St → XK} {t : TA} (M : Mk X.K C f) (F : FnOk X.prog X.w X.K X.mg X.base CX k f fd ps sp) (hr : Room (k + 1) X.A) (hg : Gl X x) (hm : X.mg x = some (.ref C)) (hb : Binds X.K fd ps []) (hx : ∀ σ, PassesAt CX X σ (E σ))
    (ha : PA X (e :: es) t) (hdb : (x == ("__debug__" : Str)) = false := by decide) (he : starEach (e :: es) X.env = (false, eval e X.env) :: starEach es X.env := by rfl) (hpl : (backTo pos (starEach es X.env)).any (·.1) = false := by rfl) :
    PE X (.Call (.Name x p) (e :: es) [] pos) (tMakeS C sp E t) := ⟨fun pins s σ H Q I h =>
  wpAny_Call_Name_kw (ld_glob I hg hm (PySem.W.callWith_K (h₀ := X.base) I.ok.mod.kin M.kp (thn (ha.run pos pins s σ H _ I h) fun us s1 ⟨vs, H1, I1, r, q⟩ => ⟨I1.kIn, run_makeS M F hr hb (hx σ) I1 r q⟩) he hpl) hdb)⟩
theorem low_make {K : PySem.W.Frag} : ∀ σ H Q, lowE K W (dMake C sp t) σ H Q → tMakeS C (lowSp K sp) (WE W) (lowA K W t) σ H Q := fun σ H Q ⟨Z, ρ, x, G, Qd, sr, hr, h, c, xo⟩ =>
  ⟨Z, ρ, x, G, _, sr, hr, h, fun zs vs G1 H1 f1 r1 d1 q1 p dx hp hdx hne => by
    have fa : Fr G1 H1 G1 (upd H1 dx (.own p)) := Fr.new hdx
    have ra : HR K Z G1 (upd H1 dx (.own p)) := r1.new hdx
    have hp2 : upd H1 dx (.own p) p = none := by rw [upd_ne (Ne.symm hne)]; exact hp
    have fb : Fr G1 (upd H1 dx (.own p)) (gup G1 p (.ins C [])) (upd (upd H1 dx (.own p)) p (.ins C dx [])) := Fr.newT hp2
    have rb : HR K Z (gup G1 p (.ins C [])) (upd (upd H1 dx (.own p)) p (.ins C dx [])) := ra.newT (m := .ins C []) hp2 ⟨dx, [], upd_same, .nil⟩
    have ff := f1.trans (fa.trans fb)
    refine ⟨Z, .ref p :: zs, gup G1 p (.ins C []), fun z G2 => z = .non ∧ Qd (.ref p) G2, x, .cons (.ref p) (d1.mono (fa.trans fb)), rb, q1 p (r1.free hp), fun z v G' H' f r d q => ?_, fun C2 fs d fv G2 H2 f2 r2 e n p2 q => xo C2 fs d fv G2 H2 (ff.trans f2) r2 e n p2 q⟩
    obtain ⟨rfl, q⟩ := q
    cases d
    exact ⟨rfl, c (.ref p) (.ref p) G' H' (ff.trans f) r (.ref p) q⟩, xo⟩
theorem pd_make (M : Mk X.K C f) (F : FnD X.prog X.w X.K X.mg X.base k f fd ps sp) (hr : Room (k + 1) X.A) (hm : X.mg x = some (.ref C)) (hb : Binds X.K fd ps []) (tk : Takes X W) (ha : PDA X W (e :: es) t) (hg : Gl X x := by rfl)
    (hdb : (x == ("__debug__" : Str)) = false := by decide) (he : starEach (e :: es) X.env = (false, eval e X.env) :: starEach es X.env := by rfl) (hpl : (backTo pos (starEach es X.env)).any (·.1) = false := by rfl) :
    PD X W (.Call (.Name x p) (e :: es) [] pos) (dMake C sp t) := PE.imp (pe_makeS M F hr hg hm hb (fun σ => passAt tk σ) ha hdb he hpl) low_make
end
/-! ### isinstance(x, C) -/
structure InsF (K : PySem.W.Frag) (C : Addr) : Prop where
  cl : Cls K C
  ha : PySem.W.findIn K (.ref C) "__class__" = some (some (.builtin "object.__class__"))
  hn : PySem.W.specialIn K (.builtin "object.__class__") "__get__" = some (some (.builtin "getset_descriptor.__get__"))
  ht : PySem.W.takesIn K (.builtin "object.__class__") = some true
  hm : PySem.W.mroIn K C (.type "object") = some true
structure IsF (K : PySem.W.Frag) (C : Addr) (Cs : List Addr) : Prop where
  own : InsF K C
  ty : ∀ t ∈ tyNames, PySem.W.kitOne K (.type t) (.ref C) = some false
  oth : ∀ C' ∈ Cs, InsF K C' ∧ PySem.W.kitOne K (.ref C') (.ref C) = some false
def isC (C : Addr) (Cs : List Addr) (G : GH) : D → Option Bool
  | .non | .bl _ | .int _ | .str _ | .tup _ | .lst _ | .dic => some false
  | .ref p => match G p with
    | some (.ins C' _) => if C' = C then some true else if C' ∈ Cs then some false else none
    | some (.lst _) | some (.dK _) | some (.dT _) => some false
    | _ => none
  | _ => none
def rdIsC (C : Addr) (Cs : List Addr) : RDC := fun zs G Q => match zs with
  | [z, .ref C0] => C0 = C ∧ ∃ b, isC C Cs G z = some b ∧ Q (.bl b) G
  | _ => False
theorem isC_tyD {C : Addr} {Cs : List Addr} {G : GH} {z : D} {b : Bool} (h : isC C Cs G z = some b) : (b = false ∧ ∃ t, tyD G z = some t) ∨ ∃ p C' fs, z = .ref p ∧ G p = some (.ins C' fs) ∧ ((C' = C ∧ b = true) ∨ (C' ≠ C ∧ C' ∈ Cs ∧ b = false)) := by
  cases z with
  | ref p =>
    simp only [isC] at h
    split at h
    · rename_i C' fs e
      right
      refine ⟨p, C', fs, rfl, e, ?_⟩
      by_cases h1 : C' = C
      · rw [if_pos h1] at h
        cases h
        exact .inl ⟨h1, rfl⟩
      · rw [if_neg h1] at h
        by_cases h2 : C' ∈ Cs
        · rw [if_pos h2] at h
          cases h
          exact .inr ⟨h1, h2, rfl⟩
        · rw [if_neg h2] at h
          cases h
    · rename_i e
      cases h
      exact .inl ⟨rfl, "list", by simp only [tyD, e]⟩
    · rename_i e
      cases h
      exact .inl ⟨rfl, "dict", by simp only [tyD, e]⟩
    · rename_i e
      cases h
      exact .inl ⟨rfl, "dict", by simp only [tyD, e]⟩
    · cases h
  | scr _ => cases h
  | ty _ => cases h
  | _ => cases h; exact .inl ⟨rfl, _, rfl⟩
theorem cll_isC {K : PySem.W.Frag} {C : Addr} {Cs : List Addr} (F : IsF K C Cs) : CallL K (rIsi K) (rdIsC C Cs) := by
  intro Z zs vs G H Qd Q hr ds h c
  unfold rdIsC at h
  split at h
  · obtain ⟨v, u, rfl, d1, d2⟩ := ds.two
    obtain ⟨rfl, b, e, q⟩ := h
    cases d2
    rcases isC_tyD e with ⟨rfl, t, ht⟩ | ⟨p, C', fs, rfl, g, hb⟩
    · exact ⟨v, _, _, _, false, rfl, .own _, tyD_of hr d1 ht, F.ty t (tyD_mem ht), Ret.bl c hr q⟩
    · cases d1
      obtain ⟨dx, fv, hp, _⟩ := hr.at_ _ _ g
      rcases hb with ⟨rfl, rfl⟩ | ⟨_, hm, rfl⟩
      · refine ⟨_, _, _, _, true, rfl, .own _, .base (.ins hp F.own.cl F.own.ha F.own.hn F.own.ht F.own.hm), ?_, Ret.bl c hr q⟩
        unfold PySem.W.kitOne
        simp
      · obtain ⟨I, hk⟩ := F.oth C' hm
        exact ⟨_, _, _, _, false, rfl, .own _, .base (.ins hp I.cl I.ha I.hn I.ht I.hm), hk, Ret.bl c hr q⟩
  · exact h.elim
end TD
/-! # TD, 26: extend, x in list, the keys of a dict of tuple keys, its length; own classes in the head -/
namespace TD
open PySem PySem.Spec PyProof.Rows L2
/-! ### l.extend(list) -/
def rdExtend : RDM := fun z zs G Q => ∃ a xs ys, z = .ref a ∧ zs = [.lst ys] ∧ G a = some (.lst xs) ∧ xs.length + ys.length ≤ sizeLine ∧ Q .non (gup G a (.lst (xs ++ ys)))
theorem mth_extend {K : PySem.W.Frag} : MthL K "list" rExtend rdExtend := by
  rintro Z z zs v vs G H Qd Q hr dz ds ⟨a, xs, ys, rfl, rfl, g, hz, q⟩ c
  cases dz
  obtain ⟨u, rfl, du⟩ := ds.one
  obtain ⟨ws, h1, r1, z1⟩ := hr.at_ _ _ g
  have l1 := r1.length
  cases du with
  | lst n2 g2 h2 z2 r2 =>
    have l2 := r2.length
    rename_i b us
    refine ⟨a, b, ws, us, rfl, rfl, h1, h2, by omega, ?_⟩
    have f : Fr G H (gup G a (.lst (xs ++ ys))) (upd H a (.lst (ws ++ us))) := Fr.put g
    exact c .non .non _ _ f (hr.put g ⟨_, upd_same, (r1.mono f).append (r2.mono f), by rw [List.length_append]; omega⟩) .non q
/-! ### x in list, plain data -/
def rdInL : RD2 := fun z y G Q => ∃ n ds, n ≤ 59 ∧ y = .lst ds ∧ pureN n z = true ∧ ds.all (pureN n) = true ∧ Q (.bl (ds.any fun d => deq d z)) G
theorem anyP {ds : List D} {z : D} {n : Nat} (h1 : ∀ d ∈ ds, pureN n d = true) (h2 : pureN n z = true) : ((ds.map toP).any fun d => PyData.eqv d (toP z)) = ds.any fun d => deq d z := by
  induction ds with
  | nil => rfl
  | cons d ds ih =>
    rw [List.map_cons, List.any_cons, List.any_cons, eqv_deq d z n (h1 d List.mem_cons_self) h2, ih fun x hx => h1 x (List.mem_cons_of_mem _ hx)]
theorem opl_inL {K : PySem.W.Frag} : OpL K (rInD K) rdInL := by
  rintro Z z y vz vy G H Qd Q hr dz dy ⟨n, ds, l, rfl, h1, h2, q⟩ c
  have h3 : pureN (n + 1) (.lst ds) = true := by unfold pureN; exact h2
  rw [List.all_eq_true] at h2
  have e := dy.dp (n + 1) h3
  have s3 := shaped_of h3 (by omega)
  rw [toP_lst] at e s3
  refine ⟨_, _, dz.dp n h1, e, shaped_of h1 (by omega), s3, ?_⟩
  rw [anyP h2 h1]
  exact Ret.bl c hr q
/-! ### for k in d, d of tuple keys -/
def iKeysFT {X : Cx} (td : TE) : TI := fun σ H R => td σ H fun x H1 => ∃ p kvs, x = .ref p ∧ H1 p = some (.dT kvs) ∧ ∀ o, R (Itkt p o kvs) (upd H1 p (.frz o (.dT kvs)))
section
variable {X : Cx} {W : WX} {tg e : Expr} {a : DE}
theorem pi_keysFT {td : TE} (he : PE X e td) : PI X tg e (iKeysFT (X := X) td) := by
  refine ⟨fun pins s σ H R I h => ?_⟩
  refine thn (he.run pins s σ H _ I h) fun u s1 ⟨x, H1, I1, rx, p, kvs, ex, hd, q⟩ => ?_
  subst ex
  obtain rfl : u = Value.ref p := rx
  obtain ⟨o, I2⟩ := I1.lock hd True.intro
  obtain ⟨hs, hgd, hx, es, ep, hdt, hsz, _⟩ := frzT2 I2 upd_same
  refine iter_keys hs hgd hx hdt (pi_one (tk := s1.toks) I2 _ (turn_keysT _ hdt) ⟨_, Heap.get?_push_size _ rfl, rfl, ?_⟩ (q o))
  rw [hsz] <;> rfl
def dIKeysT (a : DE) : DI := fun ρ x G R => a ρ x G fun l G1 => ∃ p kvs, l = .ref p ∧ kvs.length ≤ sizeLine ∧ (∀ kv ∈ kvs, kv.1.length ≤ sizeLine) ∧ G1 p = some (.dT kvs) ∧ ∀ o ks, R (kvs.map fun kv => tkD kv.1) (fun G => G p = some (.fT o ks kvs)) (gup G1 p (.fT o ks kvs))
theorem it_keysT {K : PySem.W.Frag} {Z : Addr → Prop} {p : Addr} {o : Obj} {ks : List (List Key × V)} {kvs : List (List Key × D)} {G0 : GH} {H0 : Hp} (hr : HR K Z G0 H0) (g : G0 p = some (.fT o ks kvs)) (hz : kvs.length ≤ sizeLine) (hk : ∀ kv ∈ kvs, kv.1.length ≤ sizeLine) :
    ItOk K Z (Itkt p o ks) (kvs.map fun kv => tkD kv.1) G0 H0 (fun G => G p = some (.fT o ks kvs)) := by
  have len : (kvs.map fun kv => tkD kv.1).length = kvs.length := List.length_map _
  have l2 : kvs.length = ks.length := (hr.at_ _ _ g).2.length
  refine ⟨by rw [len]; exact hz, fun Z' i G H up f r gd hi => ⟨(r.at_ _ _ gd).1, by rw [len] at hi; omega⟩, fun Z' G H up f r gd => ⟨(r.at_ _ _ gd).1, by rw [len]; omega⟩, fun Z' i G H x H' up f r gd hi y => ?_⟩
  obtain ⟨e1, k, v, q, e2, e3, hq⟩ := y
  subst e1 e3
  obtain ⟨d, h1, dv⟩ := (r.at_ _ _ gd).2.getV e2
  obtain ⟨z1, g1⟩ := r.tupZ hq
  have hkl : k.length ≤ sizeLine := hk (k, d) (List.mem_of_getElem? h1)
  refine ⟨_, by rw [List.getElem?_map, h1]; rfl, Fr.refl _ _, r, ?_⟩
  exact DV.tup z1 g1 hq (by rw [List.length_map]; exact hkl) (kDs_D k)
theorem pdi_keysT (ha : PD X W e a) : PDI X W tg e (dIKeysT a) :=
  PI.imp (pi_keysFT ha) fun σ H R ⟨Z, ρ, x, G, Qd, sr, hr, h, c, xo⟩ => ⟨Z, ρ, x, G, _, sr, hr, h, fun l lv G1 H1 f1 r1 d1 ⟨p, kvs, el, hz, hk, g, q⟩ => by
    subst el
    cases d1
    obtain ⟨ks, hp, pr⟩ := r1.at_ _ _ g
    refine ⟨p, ks, rfl, hp, fun o => ?_⟩
    have f2 : Fr G1 H1 (gup G1 p (.fT o ks kvs)) (upd H1 p (.frz o (.dT ks))) := Fr.put g
    have r2 : HR X.K Z (gup G1 p (.fT o ks kvs)) (upd H1 p (.frz o (.dT ks))) := r1.put g ⟨upd_same, pr.mono f2⟩
    exact c _ _ _ _ _ (f1.trans f2) r2 (it_keysT r2 gup_same hz hk) (q o ks), xo⟩
end
/-! ### len(d), d of tuple keys -/
def rdLenT : RDC := fun zs G Q => ∃ a kvs, zs = [.ref a] ∧ G a = some (.dT kvs) ∧ Q (.int ((kvs.length : Nat) : Int)) G
theorem cll_lenT {K : PySem.W.Frag} : CallL K rLenT rdLenT := by
  rintro Z zs vs G H Qd Q hr ds ⟨a, kvs, rfl, g, q⟩ c
  obtain ⟨v, rfl, d⟩ := ds.one
  cases d
  obtain ⟨ks, hp, pr⟩ := hr.at_ _ _ g
  exact ⟨_, ks, rfl, hp, by rw [← pr.len]; exact Ret.int c hr q⟩
/-! ### max(t), min(t), t a tuple of ints -/
section
open PySem.Calls PySem.W
variable {prog : Program} {w : World} {A : Around} {E : Value → Shared → Prop} {s : Shared} {t : Addr} {xs : Array (Int × Tok)}
theorem tupWalk {Q : Value → Shared → Prop} (ht : s.heap.IsTuple t (intItems xs))
    (h : ∀ s₂ : Shared, s₂ = { s with heap := s.heap.push { cls := .type "tuple_iterator", data := .fields #[.ref t, .int 0 0] } } → (s₂.heap.IsTupleIter s.heap.objs.size t 0 ∧ s₂.heap.IsTuple t (intItems xs)) → (∀ b ∈ [s.heap.objs.size, t], b < s₂.heap.objs.size) → t ≠ s.heap.objs.size → Q (.ref s.heap.objs.size) s₂) :
    wpAny (model prog w) A (pyIter (.ref t)) Q E s := by
  have hlt : t < s.heap.objs.size := by obtain ⟨_, e, _⟩ := ht; exact Heap.lt_size e
  refine wpAny_pyIter_tuple ht (h _ rfl ⟨⟨_, Heap.get?_push_size _ rfl, rfl, rfl⟩, ht.at fun o e => Heap.get?_push_of_some _ e⟩ (fun b hb => ?_) (Nat.ne_of_lt hlt))
  show b < (s.heap.push _).objs.size
  rw [Heap.size_push]
  rcases List.mem_cons.mp hb with rfl | hb
  · exact Nat.lt_succ_self _
  · rcases List.mem_cons.mp hb with rfl | hb
    · exact Nat.lt_succ_of_lt hlt
    · cases hb
theorem old_keptT {h' : Heap} (hk : ∀ b o, b ∉ [s.heap.objs.size] → (s.heap.push { cls := .type "tuple_iterator", data := .fields #[.ref t, .int 0 0] }).get? b = some o → h'.get? b = some o) :
    ∀ b o, s.heap.get? b = some o → h'.get? b = some o := fun b o e => by
  refine hk b o (fun hm => ?_) (Heap.get?_push_of_some _ e)
  rcases List.mem_cons.mp hm with e1 | hm
  · exact absurd (e1 ▸ Heap.lt_size e) (Nat.lt_irrefl _)
  · cases hm
theorem max_intTuple {Q : Value → Shared → Prop} (hh : A.handled = none) (ht : s.heap.IsTuple t (intItems xs)) (hne : 0 < xs.size)
    (h : ∀ v h' tk, (intItems xs)[argBest (fun i j => decide (numAt xs i > numAt xs j)) (xs.size - 1)]? = some v → (∀ b o, s.heap.get? b = some o → h'.get? b = some o) → Q v { s with heap := h', toks := tk }) :
    wpAny (model prog w) A (call (.builtin "max") [.ref t]) Q E s := by
  refine call_max_walk (tupWalk ht fun s₂ e st hfp hlI => ?_)
  subst e
  refine ⟨_, _, _, _, _, _, _, rfl, Walks.tuple (A := A.in1) hh _ t hlI (intItems xs), st, hfp, by simpa [intItems] using hne, CmpOf.ints_gt (numAt xs) (fun _ _ => intItems_at), fun v h' tk hP hk => ?_⟩
  exact h v h' tk (by simpa [intItems] using hP) (old_keptT hk)
theorem min_intTuple {Q : Value → Shared → Prop} (hh : A.handled = none) (ht : s.heap.IsTuple t (intItems xs)) (hne : 0 < xs.size)
    (h : ∀ v h' tk, (intItems xs)[argBest (fun i j => decide (numAt xs i < numAt xs j)) (xs.size - 1)]? = some v → (∀ b o, s.heap.get? b = some o → h'.get? b = some o) → Q v { s with heap := h', toks := tk }) :
    wpAny (model prog w) A (call (.builtin "min") [.ref t]) Q E s := by
  refine call_min_walk (tupWalk ht fun s₂ e st hfp hlI => ?_)
  subst e
  refine ⟨_, _, _, _, _, _, _, rfl, Walks.tuple (A := A.in1) hh _ t hlI (intItems xs), st, hfp, by simpa [intItems] using hne, CmpOf.ints_lt (numAt xs) (fun _ _ => intItems_at), fun v h' tk hP hk => ?_⟩
  exact h v h' tk (by simpa [intItems] using hP) (old_keptT hk)
end
def rMaxTI (K : PySem.W.Frag) : List V → Hp → VK → Prop := fun vs H Q => ∃ (a : Addr) (ns : List Int), vs = [V.ref a] ∧ SqT K H a (ns.map V.int) ∧ 0 < ns.length ∧ ∀ m, m ∈ ns → (∀ y, y ∈ ns → y ≤ m) → Q (.int m) H
def rMinTI (K : PySem.W.Frag) : List V → Hp → VK → Prop := fun vs H Q => ∃ (a : Addr) (ns : List Int), vs = [V.ref a] ∧ SqT K H a (ns.map V.int) ∧ 0 < ns.length ∧ ∀ m, m ∈ ns → (∀ y, y ∈ ns → m ≤ y) → Q (.int m) H
section
variable {X : Cx}
theorem cr_maxT (hc : X.calm = true) : CallR X (.builtin "max") (rMaxTI X.K) := by
  intro pins s σ H vs us Q I r h
  obtain ⟨a, ns, rfl, hs, hne, q⟩ := h
  obtain ⟨its, rv, hl, _⟩ := I.tuple hs
  rw [Vals.ref1 r]
  obtain ⟨xs, e⟩ := rv.ints.allInts.items
  have hn : numsOf (intItems xs).toList = ns := by rw [← e]; exact rv.ints.numsOf
  rw [nums_intItems] at hn
  subst hn
  rw [e] at hl
  have hsz : 0 < xs.size := by simpa using hne
  refine max_intTuple (I.ok.hd hc) hl hsz fun v h' tk hv hk => ?_
  obtain ⟨t, rfl⟩ := intItems_at hv
  obtain ⟨h1, h2⟩ := argBest_gt (numAt xs) (xs.size - 1)
  refine ⟨.int _, H, I.kept hk, ⟨t, rfl⟩, q _ ?_ fun a ha => ?_⟩
  · rw [numAt_eq]; exact PySem.getD_mem (by rw [List.length_map, Array.length_toList]; omega)
  · obtain ⟨j, hj, rfl⟩ := mem_getD ha
    rw [List.length_map, Array.length_toList] at hj
    rw [← numAt_eq]; exact h2 j (by omega)
theorem cr_minT (hc : X.calm = true) : CallR X (.builtin "min") (rMinTI X.K) := by
  intro pins s σ H vs us Q I r h
  obtain ⟨a, ns, rfl, hs, hne, q⟩ := h
  obtain ⟨its, rv, hl, _⟩ := I.tuple hs
  rw [Vals.ref1 r]
  obtain ⟨xs, e⟩ := rv.ints.allInts.items
  have hn : numsOf (intItems xs).toList = ns := by rw [← e]; exact rv.ints.numsOf
  rw [nums_intItems] at hn
  subst hn
  rw [e] at hl
  have hsz : 0 < xs.size := by simpa using hne
  refine min_intTuple (I.ok.hd hc) hl hsz fun v h' tk hv hk => ?_
  obtain ⟨t, rfl⟩ := intItems_at hv
  obtain ⟨h1, h2⟩ := argBest_lt (numAt xs) (xs.size - 1)
  refine ⟨.int _, H, I.kept hk, ⟨t, rfl⟩, q _ ?_ fun a ha => ?_⟩
  · rw [numAt_eq]; exact PySem.getD_mem (by rw [List.length_map, Array.length_toList]; omega)
  · obtain ⟨j, hj, rfl⟩ := mem_getD ha
    rw [List.length_map, Array.length_toList] at hj
    rw [← numAt_eq]; exact h2 j (by omega)
end
def rdMaxT : RDC := fun zs G Q => ∃ ns : List Int, zs = [.tup (ns.map D.int)] ∧ 0 < ns.length ∧ ∀ m, m ∈ ns → (∀ y, y ∈ ns → y ≤ m) → Q (.int m) G
def rdMinT : RDC := fun zs G Q => ∃ ns : List Int, zs = [.tup (ns.map D.int)] ∧ 0 < ns.length ∧ ∀ m, m ∈ ns → (∀ y, y ∈ ns → m ≤ y) → Q (.int m) G
theorem cll_maxT {K : PySem.W.Frag} : CallL K (rMaxTI K) rdMaxT := by
  rintro Z zs vs G H Qd Q hr ds ⟨ns, rfl, l, q⟩ c
  obtain ⟨v, rfl, d⟩ := ds.one
  cases d with
  | tup n1 g1 h1 z1 r1 => exact ⟨_, ns, rfl, by rw [← r1.ints]; exact SqT.of h1, l, fun m h2 h3 => Ret.int c hr (q m h2 h3)⟩
theorem cll_minT {K : PySem.W.Frag} : CallL K (rMinTI K) rdMinT := by
  rintro Z zs vs G H Qd Q hr ds ⟨ns, rfl, l, q⟩ c
  obtain ⟨v, rfl, d⟩ := ds.one
  cases d with
  | tup n1 g1 h1 z1 r1 => exact ⟨_, ns, rfl, by rw [← r1.ints]; exact SqT.of h1, l, fun m h2 h3 => Ret.int c hr (q m h2 h3)⟩
theorem _root_.L2.Room.u65 {k : Nat} {A : Around} (r : Room k A) : A.units + 65 < cLine := by have := r.un; omega
/-! ### own classes in the head -/
def insB (K : PySem.W.Frag) (C : Addr) : Bool := He.eqO (PySem.W.findIn K (.ref C) "__class__") (some (some (.builtin "object.__class__"))) && (He.eqO (PySem.W.specialIn K (.builtin "object.__class__") "__get__") (some (some (.builtin "getset_descriptor.__get__"))) &&
  (decide (PySem.W.takesIn K (.builtin "object.__class__") = some true) && decide (PySem.W.mroIn K C (.type "object") = some true)))
def isfB (K : PySem.W.Frag) (C : Addr) (Cs : List Addr) : Bool := insB K C && (tyNames.all (fun t => decide (PySem.W.kitOne K (.type t) (.ref C) = some false)) && Cs.all fun C' => insB K C' && decide (PySem.W.kitOne K (.ref C') (.ref C) = some false))
theorem insB_ok {K : PySem.W.Frag} {C : Addr} (cl : Cls K C) (h : insB K C = true) : InsF K C := by
  obtain ⟨h1, h⟩ := He.ba h
  obtain ⟨h2, h⟩ := He.ba h
  obtain ⟨h3, h4⟩ := He.ba h
  exact ⟨cl, He.eqO_ok h1, He.eqO_ok h2, of_decide_eq_true h3, of_decide_eq_true h4⟩
theorem isfB_ok {K : PySem.W.Frag} {C : Addr} {Cs : List Addr} (cl : Cls K C) (cls : ∀ C' ∈ Cs, Cls K C') (h : isfB K C Cs = true) : IsF K C Cs := by
  obtain ⟨h1, h⟩ := He.ba h
  obtain ⟨h2, h3⟩ := He.ba h
  refine ⟨insB_ok cl h1, fun t ht => of_decide_eq_true (List.all_eq_true.mp h2 t ht), fun C' hc => ?_⟩
  obtain ⟨h4, h5⟩ := He.ba (List.all_eq_true.mp h3 C' hc)
  exact ⟨insB_ok (cls C' hc) h4, of_decide_eq_true h5⟩
/-- a method of a class of the module -/
structure FnM (K : PySem.W.Frag) (x q : Str) (st : Stmt) (ps : List Str) where
  f : Addr
  fd : FuncData
  F : Fun K x q st f fd
  b : Binds K fd ps []
section
variable {P : Program} {w : World} {K : PySem.W.Frag} {mg : Str → Option Value} {base : Heap}
theorem fnm_at {fa : List He.Fa} {fn : List He.DefD} {C x q : Str} {st : Stmt} {ps : List Str} (c : He.SaysD fa fn K) (i : Nat) (hi : fn[i]? = some ⟨(C, some x), x, q, defArgs st, defBody st, defScope st, [], []⟩)
    (hb : ∀ (kV doc pm : Value) (an : Option Addr) (cdv ct : Value) (us : List Value), us.length = ps.length → bindArgs (PySem.W.fnOf x q (defArgs st) (defBody st) (defScope st) .none kV doc pm an cdv ct) ⟨us, []⟩ = pure (ps.zip us)) : ∃ T : FnM K x q st ps, T.f = He.ma K (He.ga K C) x := by
  obtain ⟨fd, F⟩ := c.def_ i hi
  have F2 := fun_of (show FunD K x q (defArgs st) (defBody st) (defScope st) [] [] (He.ma K (He.ga K C) x) fd from F)
  exact ⟨⟨_, fd, F2, F2.binds hb⟩, rfl⟩
theorem fnDm {x q : Str} {st : Stmt} {N ps : List Str} {k : Nat} {sp : SpD} {ds : DS} (T : FnM K x q st ps) (S : FnScope N ps (defScope st)) (len : ∀ zs G Q x, sp zs G Q x → zs.length = ps.length)
    (der : ∀ (cdv : Value) (A : Around) (outer : List Env) (s : Shared) (H : Hp) (E : XK), Room k (A.deeper (envOfC q (defScope st) s.heap.objs.size T.f cdv)) →
      Takes (cxOf (L2.CX P w) P w K mg base N q (defScope st) T.f cdv A outer s H E) (fun c d _ H' => E c d H') →
      PDSs (cxOf (L2.CX P w) P w K mg base N q (defScope st) T.f cdv A outer s H E) (fun c d _ H' => E c d H') (defBody st) ds)
    (read : ∀ (zs : List D) (G : GH) (Q : DK) (x : XD), sp zs G Q x → ds { nx := fun _ G' => Q .non G', rt := Q, xx := fun _ => x } (dstart N zs) G) : FnD P w K mg base (k + 1) T.f T.fd ps sp := fnD T.F S len der read
end
end TD
/-! # TD, 27: told tuples (no dict of their own), their count; sorted pairs -/
namespace TD
open PySem PySem.Spec PyProof.Rows L2
/-- a new tuple's object is known -/
def NT (H : Hp) (Q : VK) (xs : List V) : Prop := ∀ p o, H p = none → o.dict = none → Q (.ref p) (upd H p (.frz o (.tup xs)))
def NewC (G : GH) (ys : List D) (Q : DK) : Prop := ∀ p G', (∀ b m, G b = some m → G' b = some m) → G' p = some (.tupC ys) → Q (.ref p) G'
theorem Ret.newC {K : PySem.W.Frag} {Z : Addr → Prop} {G : GH} {H : Hp} {Qd : DK} {Q : VK} {ys : List D} {vs : List V} (c : Ret K Z G H Qd Q) (hr : HR K Z G H) (dv : DVs K Z G H ys vs) (hz : vs.length ≤ sizeLine) (q : NewC G ys Qd) : NT H Q vs := fun p o hp ho =>
  c (.ref p) (.ref p) (gup G p (.tupC ys)) _ (Fr.newT hp) (hr.newT (m := .tupC ys) hp ⟨o, vs, upd_same, ho, dv.mono (Fr.newT hp), hz⟩) (.ref p) (q p _ (fun b m hb => by
    rw [gup_ne (fun z => by rw [z, hr.free hp] at hb; cases hb)]
    exact hb) gup_same)
theorem toldC {K : PySem.W.Frag} {Z : Addr → Prop} {G : GH} {H : Hp} {a : Addr} {xs : List D} (hr : HR K Z G H) (g : G a = some (.tupC xs)) : ∃ vs, SqT K H a vs ∧ DVs K Z G H xs vs ∧ vs.length ≤ sizeLine := by
  obtain ⟨o, vs, h1, h2, h3, h4⟩ := hr.at_ _ _ g
  exact ⟨vs, .inl (.inr ⟨o, h1⟩), h3, h4⟩
section
variable {X : Cx} {W : WX} {pins : List (Addr × Obj)} {σ : L2.St} {H : Hp} {s : Shared} {Q : VK}
theorem laidT {xs : List V} {its : List Value} {tk : Nat} (I : Inv X pins σ H s) (r : Vals xs its) (hz : xs.length ≤ sizeLine) (q : NT H Q xs) : EP X pins σ Q (.ref s.heap.objs.size) { s with heap := s.heap.push { cls := .type "tuple", data := .seq its.toArray }, toks := tk } :=
  ⟨.ref _, _, I.laid (t' := tk) (o := .frz { cls := .type "tuple", data := .seq its.toArray } (.tup xs)) (fun b ob q => Heap.get?_push_of_some _ q) (Nat.le_refl _) ⟨Heap.get?_push_size _ rfl, hz, its, r, IsTup.new _ _⟩, rfl, q _ _ (I.hok.fresh (Nat.le_refl _)) rfl⟩
/-! (e, ..) -/
def tTupC (t : TA) : TE := fun σ H Q => t σ H fun xs H1 => xs.length ≤ sizeLine ∧ NT H1 Q xs
theorem pe_tupC {es : List Expr} {x1 : Nat} {pos : Pos} {t : TA} (h : PA X es t) : PE X (.Tuple es x1 pos) (tTupC t) := by
  refine ⟨fun pins s σ H Q I hq => ?_⟩
  refine wpAny_Tuple_spliced (thn (h.run pos pins s σ H _ I hq) fun us s1 ⟨xs, H1, I1, r, z, q⟩ => ⟨by rw [← r.length]; exact z, ?_⟩)
  exact laidT (tk := s1.toks) I1 r z q
def dTupC (t : DA) : DE := fun ρ x G Q => t ρ x G fun zs G1 => zs.length ≤ sizeLine ∧ NewC G1 zs Q
theorem pd_tupC {es : List Expr} {k : Nat} {pos : Pos} {t : DA} (h : PDA X W es t) : PD X W (.Tuple es k pos) (dTupC t) := PE.imp (pe_tupC h) fun σ H Q ⟨Z, ρ, x, G, Qd, sr, hr, h, c, xo⟩ =>
  ⟨Z, ρ, x, G, _, sr, hr, h, fun zs vs G1 H1 f1 r1 d1 ⟨hz, q⟩ => ⟨by rw [← d1.length]; exact hz, Ret.newC (Ret.mono f1 c) r1 d1 (by rw [← d1.length]; exact hz) q⟩, xo⟩
/-! tuple(l) -/
abbrev rTupleC (K : PySem.W.Frag) : List V → Hp → VK → Prop := fun xs H Q => ∃ p ys, xs = [V.ref p] ∧ SqL K H p ys ∧ NT H Q ys
theorem call_tupleC : CallR X (.type "tuple") (rTupleC X.K) := by
  intro pins s σ H xs us Q I r h
  obtain ⟨p, ys, rfl, hq, q⟩ := h
  obtain ⟨u, rfl, rx⟩ := vals1 r
  cases rx
  obtain ⟨its, r', pl, hz⟩ := I.list hq
  have hlen := r'.length
  refine call_tuple_list pl.isList (fun h' kp => ?_) (by simp only [List.size_toArray] <;> omega)
  exact laidT (tk := s.toks) (I.kept (t' := s.toks) kp) r' hz q
/-! t + u -/
def rCatC (K : PySem.W.Frag) : R2 := fun x y H Q => ∃ a b xs ys, x = .ref a ∧ y = .ref b ∧ SqT K H a xs ∧ SqT K H b ys ∧ xs.length + ys.length ≤ sizeLine ∧
  (xs = [] → Q (.ref b) H) ∧ (xs ≠ [] → ys = [] → Q (.ref a) H) ∧ (xs ≠ [] → ys ≠ [] → NT H Q (xs ++ ys))
theorem op_catC : OpR X (binaryOp .Add) (rCatC X.K) := by
  intro pins s σ H x y v u Q I rx ry h
  obtain ⟨a, b, xs, ys, rfl, rfl, ha, hb, hz, q0, q1, q2⟩ := h
  cases rx
  cases ry
  obtain ⟨its, r1, p1, _⟩ := I.tuple ha
  obtain ⟨its2, r2, p2, _⟩ := I.tuple hb
  by_cases hx : xs = []
  · subst hx
    cases r1
    exact cat_tup0 p1 p2 ⟨.ref b, H, I, rfl, q0 rfl⟩
  · refine HT.cat_tup p1 p2 (fun z => hx (r1.nil_iff.mp z)) (fun z => ⟨.ref a, H, I, rfl, q1 hx (r2.nil_iff.mp z)⟩) (fun z => ?_) (by rw [← r1.length, ← r2.length]; exact hz)
    exact laidT (tk := s.toks) I (r1.append r2) (by rw [List.length_append]; exact hz) (q2 hx fun w => z (r2.nil_iff.mpr w))
/-! t[lo:hi] -/
def rSlC (K : PySem.W.Frag) : V → Option Int → Option Int → Hp → VK → Prop := fun x lo hi H Q => ∃ a xs, x = .ref a ∧ SqT K H a xs ∧
  (HT.sIx xs.length 0 lo = 0 ∧ HT.sIx xs.length xs.length hi = xs.length → Q (.ref a) H) ∧ (¬ (HT.sIx xs.length 0 lo = 0 ∧ HT.sIx xs.length xs.length hi = xs.length) → NT H Q (cutV xs lo hi))
theorem sl_tupC : SlR X (rSlC X.K) := by
  intro pins s σ H x v vl vu lo hi sl Q I rx hs pl pu h
  obtain ⟨a, xs, rfl, hx, q1, q2⟩ := h
  cases rx
  obtain ⟨its, r, ht, hz⟩ := I.tuple hx
  have hlen : its.toArray.size = xs.length := by rw [List.size_toArray]; exact r.length.symm
  refine ⟨"tuple", _, PyProof.Rows.slot_tuple_getitem.lookup, ht.typeIs, ?_⟩
  by_cases hw : HT.sIx xs.length 0 lo = 0 ∧ HT.sIx xs.length xs.length hi = xs.length
  · exact getItem_tuple_whole ht hs pl pu (by rw [hlen]; exact hw) ⟨.ref a, H, I, rfl, q1 hw⟩
  · refine HT.getItem_tuple_cut ht hs pl pu (by rw [hlen]; exact hw) ?_ (by rw [hlen]; exact hz)
    rw [hlen]
    exact laidT (tk := s.toks) I ((r.drop (HT.sIx xs.length 0 lo)).take (HT.sIx xs.length xs.length hi - HT.sIx xs.length 0 lo)) (Nat.le_trans (cutV_length xs lo hi) hz) (q2 hw)
/-! t[::-1] -/
def tRevC (K : PySem.W.Frag) (te : TE) : TE := fun σ H Q => te σ H fun x H1 => ∃ a xs, x = .ref a ∧ SqT K H1 a xs ∧ NT H1 Q xs.reverse
theorem pe_revC {e : Expr} {te : TE} {k : Nat} {p1 p2 p3 pos : Pos} (he : PE X e te) : PE X (.Subscript e (.Slice none none (some (.UnaryOp .USub (.Constant (.int 1) k p1) p2)) p3) pos) (tRevC X.K te) := by
  refine ⟨fun pins s σ H Q I h => Subscript_ (thn (he.run pins s σ H _ I h) fun v s1 ⟨x, H1, I1, r1, a, xs, ex, hx, q⟩ => ?_)⟩
  subst ex
  cases r1
  have st1 : PO X (some (.UnaryOp .USub (.Constant (.int 1) k p1) p2)) (tPart (tUn (rU fun i => .int (-i)) (tC (.int 1)))) := po_some (pe_un un_neg pe_int)
  refine wpAny_Slice (thn (po_none.run pins s1 σ H1 (fun o H2 => o = none ∧ H2 = H1) I1 ⟨rfl, rfl⟩) fun vl s2 ⟨l, H2, I2, pl, el, e2⟩ => ?_)
  subst el e2
  refine thn (po_none.run pins s2 σ H2 (fun o H3 => o = none ∧ H3 = H2) I2 ⟨rfl, rfl⟩) fun vu s3 ⟨u, H3, I3, pu, eu, e3⟩ => ?_
  subst eu e3
  refine thn (st1.run pins s3 σ H3 (fun o H4 => o = some (-1) ∧ H4 = H3) I3 ⟨1, rfl, -1, rfl, rfl, rfl⟩) fun vs s4 ⟨o, H4, I4, ps, eo, e4⟩ => ?_
  subst eo e4
  have I5 : Inv X pins σ H4 { s4 with heap := s4.heap.push { cls := .type "slice", data := .fields #[vl, vu, vs] } } := I4.kept (t' := s4.toks) fun b ob q => Heap.get?_push_of_some _ q
  obtain ⟨its, r, ht, hz⟩ := I5.tuple hx
  have hlen := r.length
  show wpAny (model X.prog X.w) X.A (subscriptTail e (.Slice none none (some (.UnaryOp .USub (.Constant (.int 1) k p1) p2)) p3) (.ref a) (.ref s4.heap.objs.size)) (EP X pins σ Q) X.xe { s4 with heap := s4.heap.push { cls := .type "slice", data := .fields #[vl, vu, vs] } }
  refine tail_any (ops := [.ref a, .ref s4.heap.objs.size]) ht.typeIs (PyProof.Rows.slot_tuple_getitem.lookup) ?_ (by with_unfolding_all rfl)
  refine getItem_tuple_back ht (Heap.IsSliceOf.new _ vl vu vs) pl pu ps ?_ (by omega)
  exact laidT (tk := s4.toks) I5 r.reverse (by rw [List.length_reverse]; exact hz) q
/-! t.count(i) -/
def rTCount (K : PySem.W.Frag) : V → List V → Hp → VK → Prop := fun x vs H Q => ∃ (p : Addr) (ns : List Int) (i : Int), x = V.ref p ∧ vs = [V.int i] ∧ SqT K H p (ns.map V.int) ∧ Q (.int ((ns.count i : Nat) : Int)) H
theorem plain_ints : ∀ ns : List Int, PyData.plainAll (ns.map PyData.int) = true
  | [] => rfl
  | n :: ns => by
    rw [List.map_cons]
    unfold PyData.plainAll
    rw [plain_ints ns]
    rfl
theorem countP_ints (i : Int) : ∀ ns : List Int, (ns.map PyData.int).countP (fun y => PyData.eqv y (.int i)) = ns.count i
  | [] => rfl
  | n :: ns => by
    rw [List.map_cons, List.countP_cons, countP_ints i ns, List.count_cons]
    simp [PyData.eqv]
theorem dp_ints {K : PySem.W.Frag} {H : Hp} : ∀ ns : List Int, DpAll K H (ns.map V.int) (ns.map PyData.int)
  | [] => .nil
  | n :: ns => .cons (.int n) (dp_ints ns)
theorem mt_tcount (hu : X.A.units + 65 < cLine) : MtR X "tuple.count" (rTCount X.K) := by
  intro pins s σ H x xs v us Q I rx rv h
  obtain ⟨p, ns, i, rfl, rfl, hs, q⟩ := h
  cases rx
  obtain ⟨u, rfl, ru⟩ := rv.one
  obtain ⟨its, r, ht, _⟩ := I.tuple hs
  obtain ⟨as, hr⟩ := Dp.readsAll I _ _ _ (dp_ints ns) r
  obtain ⟨bs, hb⟩ := Dp.reads I (.int i) (V.int i) u (.int i) ru
  refine SeqAt.count_tuple_data ht (by simpa using hr) hb (plain_ints ns) rfl (by
    have : (PyData.int i).depth = 0 := rfl
    rw [this, Nat.min_zero]
    omega) ?_
  rw [countP_ints]
  exact ⟨.int _, H, I.tok _, ⟨_, rfl⟩, q⟩
def tCntC (K : PySem.W.Frag) (to : TE) (t : TA) : TE := fun σ H Q => to σ H fun x H1 => (∃ p o vs, x = V.ref p ∧ H1 p = some (.frz o (.tup vs)) ∧ o.dict = none) ∧ t σ H1 fun xs H2 => rTCount K x xs H2 Q
theorem pe_cntC {o e : Expr} {es : List Expr} {apos cpos : Pos} {to : TE} {t : TA} (hu : X.A.units + 65 < cLine) (ho : PE X o to) (ha : PA X (e :: es) t)
    (hbase : attributeBase o "count" X.env (eval o X.env) = eval o X.env := by rfl)
    (hfew : ((backTo cpos (starEach (e :: es) X.env)).all (fun x => !x.1) && (backToKw cpos (keywordEach [] X.env)).all (fun x => x.1.isSome)
      && decide ((e :: es).length + ([] : List Keyword).length + (if ([] : List Keyword).isEmpty then 0 else 1) < 30)) = true := by rfl)
    (hline : (apos.endLine == cpos.line) = true := by rfl) (hs : starEach (e :: es) X.env = (false, eval e X.env) :: starEach es X.env := by rfl) (hplain : (backTo cpos (starEach es X.env)).any (·.1) = false := by rfl) :
    PE X (.Call (.Attribute o "count" apos) (e :: es) [] cpos) (tCntC X.K to t) := by
  refine ⟨fun pins s σ H Q I h => ?_⟩
  refine wpAny_Call_method_late hbase hfew hline rfl (thn (ho.run pins s σ H _ I h) fun v s1 ⟨x, H1, I1, r1, ⟨p, ob, vs, ex, hp, hd⟩, q1⟩ => ?_)
  subst ex
  have r2 := r1
  cases r2
  obtain ⟨h3, _, its, _, ob2, h4, h5, _⟩ := I1.hok p _ hp
  refine ⟨"tuple", "tuple.count", F.plainAttrs_tuple, F.slot_tuple_count, F.type_tuple_count, ⟨ob2, h4, h5⟩, fun a e2 => ?_, ?_⟩
  · cases e2
    exact ⟨ob, h3, hd⟩
  · have hA := ha.run cpos pins s1 σ H1 _ I1 q1
    rw [hs] at hA ⊢
    refine Calls.callWith_builtin (by show (false || (backTo cpos (starEach es X.env)).any (·.1)) = false; rw [hplain] <;> rfl) (Calls.evalArgs_plain ?_)
    exact thn hA fun us s2 ⟨vs, H2, I2, r2, q2⟩ => mt_tcount hu pins s2 σ H2 _ vs _ us Q I2 r1 r2 q2
end
/-! ### over data -/
def rdTupleC : RDC := fun zs G Q => match zs with
  | [.lst xs] => NewC G xs Q
  | [.ref a] => ∃ xs, G a = some (.lst xs) ∧ NewC G xs Q
  | _ => False
theorem cll_tupleC {K : PySem.W.Frag} : CallL K (rTupleC K) rdTupleC := by
  intro Z zs vs G H Qd Q hr ds h c
  unfold rdTupleC at h
  split at h
  · obtain ⟨v, rfl, d⟩ := ds.one
    cases d with
    | lst n1 g1 h1 z1 r1 => exact ⟨_, _, rfl, SqL.of h1, Ret.newC c hr r1 z1 h⟩
  · obtain ⟨v, rfl, d⟩ := ds.one
    cases d
    obtain ⟨xs, g, q⟩ := h
    obtain ⟨ws, h1, r1, z1⟩ := hr.at_ _ _ g
    exact ⟨_, _, rfl, SqL.of h1, Ret.newC c hr r1 z1 q⟩
  · exact h.elim
def rdAddC : RD2 := fun z y G Q => ∃ a b xs ys, z = .ref a ∧ y = .ref b ∧ G a = some (.tupC xs) ∧ G b = some (.tupC ys) ∧ xs.length + ys.length ≤ sizeLine ∧ NewC G (xs ++ ys) Q
theorem opl_addC {K : PySem.W.Frag} : OpL K (rCatC K) rdAddC := by
  rintro Z z y vz vy G H Qd Q hr dz dy ⟨a, b, xs, ys, rfl, rfl, ga, gb, hz, q⟩ c
  cases dz
  cases dy
  obtain ⟨vs, s1, d1, z1⟩ := toldC hr ga
  obtain ⟨us, s2, d2, z2⟩ := toldC hr gb
  have l1 := d1.length
  have l2 := d2.length
  refine ⟨a, b, vs, us, rfl, rfl, s1, s2, by omega, fun e => ?_, fun _ e => ?_, fun _ _ => Ret.newC c hr (d1.append d2) (by rw [List.length_append]; omega) q⟩
  · subst e
    have : xs = [] := List.eq_nil_of_length_eq_zero l1
    subst this
    exact Ret.here c hr (.ref b) (q b G (fun _ _ h => h) gb)
  · subst e
    have : ys = [] := List.eq_nil_of_length_eq_zero l2
    subst this
    rw [List.append_nil] at q
    exact Ret.here c hr (.ref a) (q a G (fun _ _ h => h) ga)
def rdSlC : D → Option Int → Option Int → GH → DK → Prop := fun z lo hi G Q => ∃ a xs, z = .ref a ∧ G a = some (.tupC xs) ∧ NewC G (cutX xs lo hi) Q
def dSlC (a : DE) (l h : DO) : DE := fun ρ x G Q => a ρ x G fun z G1 => l ρ x G1 fun lo G2 => h ρ x G2 fun hi G3 => rdSlC z lo hi G3 Q
theorem sll_C {K : PySem.W.Frag} {Z : Addr → Prop} {z : D} {v : V} {lo hi : Option Int} {G : GH} {H : Hp} {Qd : DK} {Q : VK} (hr : HR K Z G H) (dz : DV K Z G H z v) (h : rdSlC z lo hi G Qd) (c : Ret K Z G H Qd Q) : rSlC K v lo hi H Q := by
  obtain ⟨a, xs, rfl, g, q⟩ := h
  cases dz
  obtain ⟨vs, s1, d1, z1⟩ := toldC hr g
  refine ⟨a, vs, rfl, s1, fun ⟨e1, e2⟩ => ?_, fun _ => Ret.newC c hr (d1.cut lo hi) (Nat.le_trans (cutV_length _ _ _) z1) q⟩
  rw [← d1.length] at e1 e2
  rw [cutX_whole e1 e2] at q
  exact Ret.here c hr (.ref a) (q a G (fun _ _ h => h) g)
def dRevC (a : DE) : DE := fun ρ x G Q => a ρ x G fun z G1 => ∃ p xs, z = .ref p ∧ G1 p = some (.tupC xs) ∧ NewC G1 xs.reverse Q
def rdLenX : RDC := fun zs G Q => rdLen zs G Q ∨ ∃ a xs, zs = [.ref a] ∧ G a = some (.tupC xs) ∧ Q (.int ((xs.length : Nat) : Int)) G
theorem cll_lenX {K : PySem.W.Frag} : CallL K (fun xs H Q => ∃ x n, xs = [x] ∧ LenV K x H n ∧ Q (.int n) H) rdLenX := by
  intro Z zs vs G H Qd Q hr ds h c
  rcases h with h | ⟨a, xs, rfl, g, q⟩
  · exact cll_len Z zs vs G H Qd Q hr ds h c
  · obtain ⟨v, rfl, d⟩ := ds.one
    cases d
    obtain ⟨vs, s1, d1, z1⟩ := toldC hr g
    exact ⟨_, _, rfl, .inr ⟨vs, s1, rfl⟩, by rw [← d1.length]; exact Ret.int c hr q⟩
def srcX (z : D) (G : GH) (R : List D → (GH → Prop) → Prop) : Prop := srcD z G R ∨ ∃ a xs, z = .ref a ∧ G a = some (.tupC xs) ∧ R xs (fun G => G a = some (.tupC xs))
theorem src_okX {K : PySem.W.Frag} {Z : Addr → Prop} {G : GH} {H : Hp} {z : D} {v : V} {R : List D → (GH → Prop) → Prop} (hr : HR K Z G H) (d : DV K Z G H z v) (h : srcX z G R) :
    ∃ b a ds Gd, v = .ref a ∧ R ds Gd ∧ Gd G ∧ SrcOk K Z b a ds G H Gd ∧ ds.length ≤ sizeLine := by
  rcases h with h | ⟨a, xs, rfl, g, q⟩
  · exact src_ok hr d h
  · cases d
    obtain ⟨vs, s1, d1, z1⟩ := toldC hr g
    exact ⟨true, _, xs, _, rfl, q, g, fun Z' G' H' up f r gd => toldC r gd, by rw [d1.length]; exact z1⟩
def dISeqX (a : DE) : DI := fun ρ x G R => a ρ x G fun z G1 => srcX z G1 fun ds Gd => R ds Gd G1
def rdListX : RDC := fun zs G Q => rdList zs G Q ∨ ∃ a xs, zs = [.ref a] ∧ G a = some (.tupC xs) ∧ Q (.lst xs) G
def rdListMX : RDC := fun zs G Q => rdListM zs G Q ∨ ∃ a xs, zs = [.ref a] ∧ G a = some (.tupC xs) ∧ ∀ p, G p = none → Q (.ref p) (gup G p (.lst xs))
theorem cll_listX {K : PySem.W.Frag} : CallL K (rListOf K) rdListX := by
  intro Z zs vs G H Qd Q hr ds h c
  rcases h with h | ⟨a, xs, rfl, g, q⟩
  · exact cll_list Z zs vs G H Qd Q hr ds h c
  · obtain ⟨v, rfl, d⟩ := ds.one
    cases d
    obtain ⟨vs, s1, d1, z1⟩ := toldC hr g
    exact ⟨_, _, rfl, .inr s1, fun l hl => Ret.lst c hr hl d1 z1 q⟩
theorem cll_listMX {K : PySem.W.Frag} : CallL K (rListOf K) rdListMX := by
  intro Z zs vs G H Qd Q hr ds h c
  rcases h with h | ⟨a, xs, rfl, g, q⟩
  · exact cll_listM Z zs vs G H Qd Q hr ds h c
  · obtain ⟨v, rfl, d⟩ := ds.one
    cases d
    obtain ⟨vs, s1, d1, z1⟩ := toldC hr g
    exact ⟨_, _, rfl, .inr s1, fun l hl => Ret.lstM c hr hl d1 z1 (q l (hr.free hl))⟩
def dCntC (o : DE) (t : DA) : DE := fun ρ x G Q => o ρ x G fun z G1 => ∃ (a : Addr) (ns : List Int), z = .ref a ∧ G1 a = some (.tupC (ns.map D.int)) ∧ t ρ x G1 fun zs G2 => ∃ i, zs = [.int i] ∧ G2 a = some (.tupC (ns.map D.int)) ∧ Q (.int ((ns.count i : Nat) : Int)) G2
section
variable {X : Cx} {W : WX} {tg e o : Expr} {es : List Expr} {a da do_ : DE} {dl du : DO} {t : DA} {l u : Option Expr} {p2 pos apos cpos : Pos}
theorem pd_sliceC (ha : PD X W e da) (hl : PDO X W l dl) (hu : PDO X W u du) : PD X W (.Subscript e (.Slice l u none p2) pos) (dSlC da dl du) :=
  PE.imp (pe_slice sl_tupC ha hl hu) fun σ H Q ⟨Z, ρ, x, G, Qd, sr, hr, h, c, xo⟩ => ⟨Z, ρ, x, G, _, sr, hr, h, fun z v G1 H1 f1 r1 d1 q1 =>
    ⟨Z, ρ, x, G1, _, sr.mono f1, r1, q1, fun lo G2 H2 f2 r2 q2 => ⟨Z, ρ, x, G2, _, sr.mono (f1.trans f2), r2, q2, fun hi G3 H3 f3 r3 q3 => sll_C r3 (d1.mono (f2.trans f3)) q3 (Ret.mono (f1.trans (f2.trans f3)) c), xo.mono (f1.trans f2)⟩, xo.mono f1⟩, xo⟩
theorem pd_revC {k : Nat} {p1 p3 : Pos} (ha : PD X W e da) : PD X W (.Subscript e (.Slice none none (some (.UnaryOp .USub (.Constant (.int 1) k p1) p2)) p3) pos) (dRevC da) := PE.imp (pe_revC ha) fun σ H Q ⟨Z, ρ, x, G, Qd, sr, hr, h, c, xo⟩ => ⟨Z, ρ, x, G, _, sr, hr, h, fun z v G1 H1 f1 r1 d1 ⟨p, xs, ez, g, q⟩ => by
  subst ez
  cases d1
  obtain ⟨vs, s1, dv, z1⟩ := toldC r1 g
  exact ⟨_, _, rfl, s1, Ret.newC (Ret.mono f1 c) r1 dv.reverse (by rw [List.length_reverse]; exact z1) q⟩, xo⟩
theorem pdi_seqX (ha : PD X W e a) : PDI X W tg e (dISeqX a) := PI.imp (pi_seqA ha) fun σ H R ⟨Z, ρ, x, G, Qd, sr, hr, h, c, xo⟩ => ⟨Z, ρ, x, G, _, sr, hr, h, fun z v G1 H1 f1 r1 d1 q1 => by
  obtain ⟨b, ad, ds, Gd, ev, q, gd, so, hz⟩ := src_okX r1 d1 q1
  have it := it_seq so hz
  obtain ⟨vs, sq, _⟩ := so Z G1 H1 (fun _ _ z => z) (Fr.refl _ _) r1 gd
  cases b with
  | true => exact .inr ⟨ad, ev, ⟨vs, sq⟩, c ds Gd G1 H1 _ f1 r1 it q⟩
  | false => exact .inl ⟨ad, ev, ⟨vs, sq⟩, c ds Gd G1 H1 _ f1 r1 it q⟩, xo⟩
theorem pd_cntC (hu : X.A.units + 65 < cLine) (ho : PD X W o do_) (ha : PDA X W (e :: es) t)
    (hbase : attributeBase o "count" X.env (eval o X.env) = eval o X.env := by rfl)
    (hfew : ((backTo cpos (starEach (e :: es) X.env)).all (fun x => !x.1) && (backToKw cpos (keywordEach [] X.env)).all (fun x => x.1.isSome)
      && decide ((e :: es).length + ([] : List Keyword).length + (if ([] : List Keyword).isEmpty then 0 else 1) < 30)) = true := by rfl)
    (hline : (apos.endLine == cpos.line) = true := by rfl) (hs : starEach (e :: es) X.env = (false, eval e X.env) :: starEach es X.env := by rfl) (hplain : (backTo cpos (starEach es X.env)).any (·.1) = false := by rfl) :
    PD X W (.Call (.Attribute o "count" apos) (e :: es) [] cpos) (dCntC do_ t) := PE.imp (pe_cntC hu ho ha hbase hfew hline hs hplain) fun σ H Q ⟨Z, ρ, x, G, Qd, sr, hr, h, c, xo⟩ =>
  ⟨Z, ρ, x, G, _, sr, hr, h, fun z v G1 H1 f1 r1 d1 ⟨p, ns, ez, g, q1⟩ => by
    subst ez
    cases d1
    obtain ⟨ob, vs, h1, h2, h3, h4⟩ := r1.at_ _ _ g
    refine ⟨⟨p, ob, vs, rfl, h1, h2⟩, Z, ρ, x, G1, _, sr.mono f1, r1, q1, fun zs us G2 H2 f2 r2 d2 ⟨i, ez, g2, q2⟩ => ?_, xo.mono f1⟩
    subst ez
    obtain ⟨w, rfl, dw⟩ := d2.one
    cases dw
    obtain ⟨vs2, s2, dv2, _⟩ := toldC r2 g2
    rw [dv2.ints] at s2
    exact ⟨p, ns, i, rfl, rfl, s2, Ret.int (Ret.mono (f1.trans f2) c) r2 q2⟩, xo⟩
end
/-! ### sorted pairs of ints -/
def prD (p : Int × Int) : D := .tup [.int p.1, .int p.2]
def leP (p q : Int × Int) : Prop := p.1 < q.1 ∨ (p.1 = q.1 ∧ p.2 ≤ q.2)
def rdSortP : RDC := fun zs G Q => ∃ ps : List (Int × Int), zs = [.lst (ps.map prD)] ∧ ∀ qs : List (Int × Int), qs.Perm ps → qs.Pairwise leP → Q (.lst (qs.map prD)) G
def keyV (H : Hp) (v : V) : Int × Int := match v with
  | .ref t => match H t with
    | some (.tup [.int i, .int j]) => (i, j)
    | _ => (0, 0)
  | _ => (0, 0)
theorem keyV_of {K : PySem.W.Frag} {Z : Addr → Prop} {G : GH} {H : Hp} {p : Int × Int} {v : V} (d : DV K Z G H (prD p) v) : keyV H v = p ∧ ∃ t, v = .ref t ∧ H t = some (.tup [.int p.1, .int p.2]) := by
  cases d with
  | tup n1 g1 h1 z1 r1 =>
    obtain ⟨a, b, rfl, d1, d2⟩ := r1.two
    cases d1
    cases d2
    refine ⟨?_, _, rfl, h1⟩
    simp only [keyV, h1]
theorem keys_DVs2 {K : PySem.W.Frag} {Z : Addr → Prop} {G : GH} {H : Hp} : ∀ {ps : List (Int × Int)} {vs : List V}, DVs K Z G H (ps.map prD) vs → vs.map (keyV H) = ps ∧ (∀ v ∈ vs, DV K Z G H (prD (keyV H v)) v)
  | [], _, .nil => ⟨rfl, fun v hv => by cases hv⟩
  | p :: ps, _, .cons a b => by
    obtain ⟨h1, h2⟩ := keys_DVs2 b
    obtain ⟨k1, _⟩ := keyV_of a
    refine ⟨by rw [List.map_cons, h1, k1], fun v hv => ?_⟩
    rcases List.mem_cons.mp hv with rfl | hv
    · rw [k1]; exact a
    · exact h2 v hv
theorem DVs.of_all {K : PySem.W.Frag} {Z : Addr → Prop} {G : GH} {H : Hp} {f : V → D} : ∀ {vs : List V}, (∀ v ∈ vs, DV K Z G H (f v) v) → DVs K Z G H (vs.map f) vs
  | [], _ => .nil
  | v :: vs, h => .cons (h v List.mem_cons_self) (DVs.of_all fun x hx => h x (List.mem_cons_of_mem _ hx))
theorem cll_sortP {K : PySem.W.Frag} : CallL K (rSortedPO K) rdSortP := by
  rintro Z zs vs G H Qd Q hr ds ⟨ps, rfl, q⟩ c
  obtain ⟨v, rfl, d⟩ := ds.one
  cases d with
  | lst n1 g1 h1 z1 r1 =>
    rename_i a ws
    obtain ⟨e1, e2⟩ := keys_DVs2 r1
    refine ⟨a, ws, keyV H, rfl, SqL.of h1, fun x hx => ?_, fun ys p hsd hst hp => ?_⟩
    · obtain ⟨_, t, ht, ht2⟩ := keyV_of (e2 x hx)
      exact ⟨t, ht, ht2⟩
    · have hperm : (ys.map (keyV H)).Perm ps := by
        rw [← e1]
        exact hst.perm.map _
      have hpw : (ys.map (keyV H)).Pairwise leP := by
        refine List.pairwise_map.mpr (hsd.imp fun {x y} h => ?_)
        have h2 := SrtO.lexB_no.mp h
        unfold leP
        omega
      have dv : DVs K Z G H (ys.map fun v => prD (keyV H v)) ys := DVs.of_all fun v hv => e2 v (hst.perm.mem_iff.mp hv)
      have e3 : ys.map (fun v => prD (keyV H v)) = (ys.map (keyV H)).map prD := by rw [List.map_map]; rfl
      rw [e3] at dv
      exact Ret.lst c hr hp dv (by rw [hst.perm.length_eq]; exact z1) (q _ hperm hpw)
theorem lnX_t {xs : List D} {G : GH} {Q : DK} : rdLenX [.tup xs] G Q = Q (.int ((xs.length : Nat) : Int)) G := by
  unfold rdLenX rdLen
  refine propext ⟨fun h => ?_, .inl⟩
  rcases h with h | ⟨a, _, e, _⟩
  · exact h
  · cases e
theorem lnX_l {xs : List D} {G : GH} {Q : DK} : rdLenX [.lst xs] G Q = Q (.int ((xs.length : Nat) : Int)) G := by
  unfold rdLenX rdLen
  refine propext ⟨fun h => ?_, .inl⟩
  rcases h with h | ⟨a, _, e, _⟩
  · exact h
  · cases e
theorem srX_t {xs : List D} {G : GH} {R : List D → (GH → Prop) → Prop} : srcX (.tup xs) G R = R xs (fun _ => True) := by
  unfold srcX srcD
  refine propext ⟨fun h => ?_, .inl⟩
  rcases h with h | ⟨a, _, e, _⟩
  · exact h
  · cases e
theorem lenX_c {a : Addr} {xs : List D} {G : GH} {Q : DK} (g : G a = some (.tupC xs)) (q : Q (.int ((xs.length : Nat) : Int)) G) : rdLenX [.ref a] G Q := .inr ⟨a, xs, rfl, g, q⟩
theorem srcX_c {a : Addr} {xs : List D} {G : GH} {R : List D → (GH → Prop) → Prop} (g : G a = some (.tupC xs)) (q : R xs (fun G => G a = some (.tupC xs))) : srcX (.ref a) G R := .inr ⟨a, xs, rfl, g, q⟩
end TD
/-! # TD, 28: methods of own classes; a dict of pairs of int tuples; == and in with told lists -/
namespace TD
open PySem PySem.Spec PyProof.Rows L2
/-! ### o.m(e, ..) of an own class -/
theorem PairD.nolook {K : PySem.W.Frag} {Z : Addr → Prop} {G : GH} {H : Hp} {f : Str} : ∀ {l : List (Str × D)} {m : List (Str × V)}, PairD K Z G H l m → l.lookup f = none → m.lookup f = none
  | _, _, .nil, _ => rfl
  | p :: l, q :: m, .cons a b, h => by
    obtain ⟨p1, p2⟩ := p
    obtain ⟨q1, q2⟩ := q
    obtain ⟨e, dv⟩ := a
    have e : p1 = q1 := e
    subst e
    rw [List.lookup_cons] at h ⊢
    cases hb : f == p1 with
    | true => rw [hb] at h; cases h
    | false =>
      rw [hb] at h
      exact PairD.nolook b h
def tMethT (C : Addr) (m : Str) (sp : Sp) (E : L2.St → XK) (ta : TE) (t : TA) : TE := fun σ H Q => ta σ H fun x H1 => ∃ a dx fs, x = .ref a ∧ H1 a = some (.ins C dx fs) ∧ fs.lookup m = none ∧ t σ H1 fun vs H2 => sp (x :: vs) H2 Q (E σ)
section
variable {X : Cx} {CX : CXT} {k : Nat} {f C : Addr} {fd : FuncData} {ps : List Str} {sp : Sp} {E : L2.St → XK} {m : Str} {pos apos : Pos} {e o : Expr} {es : List Expr} {ta : TE} {t : TA}
theorem pe_methT {pl : Sem Bool} (he : PE X o ta) (c : Cls X.K C) (hm : Meth X.K C m f) (F : FnOk X.prog X.w X.K X.mg X.base CX k f fd ps sp) (hr : Room k X.A) (hb : Binds X.K fd ps []) (hx : ∀ σ, PassesAt CX X σ (E σ)) (ha : PA X (e :: es) t)
    (hst : starEach (e :: es) X.env = (false, eval e X.env) :: starEach es X.env) (hpl : (backTo pos (starEach es X.env)).any (·.1) = false)
    (ht : eval (.Call (.Attribute o m apos) (e :: es) [] pos) X.env = (do
      let ov ← eval o X.env
      standAt apos.atName
      let (f, first) ← holding [ov] (getMethod ov m pl)
      callWith pos f first (backTo pos (starEach (e :: es) X.env)) (backToKw pos (keywordEach [] X.env)))) :
    PE X (.Call (.Attribute o m apos) (e :: es) [] pos) (tMethT C m sp E ta t) := by
  refine ⟨fun pins s σ H Q I h => ?_⟩
  refine PySem.W.methodCall_KW (pl := pl) (thn (he.run pins s σ H _ I h) fun u s1 ⟨x, H1, I1, rx, a, dx, fs, ex, ea, l, q⟩ => ?_) ht
  subst ex
  obtain rfl : u = Value.ref a := rx
  refine getmeth_ok I1 ea c hm l ?_
  refine PySem.W.callWith_K (first := [.ref a]) (h₀ := X.base) I.ok.mod.kin hm.kp (thn (ha.run pos pins s1 σ H1 _ I1 q) fun us s2 ⟨vs, H2, I2, r, q2⟩ => ⟨I2.kIn, ?_⟩) hst hpl
  exact run_fnS (us := .ref a :: us) (vs := .ref a :: vs) F hr hb (hx σ) I2 (.cons rfl r) q2
theorem pe_methT0 {pl : Sem Bool} (he : PE X o ta) (c : Cls X.K C) (hm : Meth X.K C m f) (F : FnOk X.prog X.w X.K X.mg X.base CX k f fd ps sp) (hr : Room k X.A) (hb : Binds X.K fd ps []) (hx : ∀ σ, PassesAt CX X σ (E σ))
    (ht : eval (.Call (.Attribute o m apos) [] [] pos) X.env = (do
      let ov ← eval o X.env
      standAt apos.atName
      let (f, first) ← holding [ov] (getMethod ov m pl)
      callWith pos f first (backTo pos (starEach [] X.env)) (backToKw pos (keywordEach [] X.env)))) :
    PE X (.Call (.Attribute o m apos) [] [] pos) (tMethT C m sp E ta tNil) := by
  refine ⟨fun pins s σ H Q I h => ?_⟩
  refine PySem.W.methodCall_KW (pl := pl) (thn (he.run pins s σ H _ I h) fun u s1 ⟨x, H1, I1, rx, a, dx, fs, ex, ea, l, q⟩ => ?_) ht
  subst ex
  obtain rfl : u = Value.ref a := rx
  refine getmeth_ok I1 ea c hm l ?_
  exact PySem.W.callWith_K0 (first := [.ref a]) I1.kIn hm.kp (run_fnS (us := [.ref a]) (vs := [.ref a]) F hr hb (hx σ) I1 (.cons rfl .nil) q)
end
def dMeth (C : Addr) (m : Str) (sp : SpD) (o : DE) (t : DA) : DE := fun ρ x G Q => o ρ x G fun z G1 => ∃ p fs, z = .ref p ∧ G1 p = some (.ins C fs) ∧ fs.lookup m = none ∧ t ρ x G1 fun zs G2 => sp (.ref p :: zs) G2 Q x
def dMeth0 (C : Addr) (m : Str) (sp : SpD) (o : DE) : DE := fun ρ x G Q => o ρ x G fun z G1 => ∃ p fs, z = .ref p ∧ G1 p = some (.ins C fs) ∧ fs.lookup m = none ∧ sp [.ref p] G1 Q x
section
variable {X : Cx} {W : WX} {k : Nat} {f C : Addr} {fd : FuncData} {ps : List Str} {sp : SpD} {m : Str} {pos apos : Pos} {e o : Expr} {es : List Expr} {t : DA} {do_ : DE}
theorem low_meth {K : PySem.W.Frag} : ∀ σ H Q, lowE K W (dMeth C m sp do_ t) σ H Q → tMethT C m (lowSp K sp) (WE W) (lowE K W do_) (lowA K W t) σ H Q := fun σ H Q ⟨Z, ρ, x, G, Qd, sr, hr, h, c, xo⟩ =>
  ⟨Z, ρ, x, G, _, sr, hr, h, fun z v G1 H1 f1 r1 d1 ⟨p, fs, ez, g, hl, q⟩ => by
    subst ez
    cases d1
    obtain ⟨dx, fv, hp, pr⟩ := r1.at_ _ _ g
    refine ⟨p, dx, fv, rfl, hp, pr.nolook hl, Z, ρ, x, G1, _, sr.mono f1, r1, q, fun zs vs G2 H2 f2 r2 d2 q2 => ?_, xo.mono f1⟩
    exact ⟨Z, .ref p :: zs, G2, Qd, x, .cons (.ref p) d2, r2, q2, Ret.mono (f1.trans f2) c, fun C fs d fv G3 H3 f3 r3 e n p q => xo C fs d fv G3 H3 ((f1.trans f2).trans f3) r3 e n p q⟩, xo⟩
theorem low_meth0 {K : PySem.W.Frag} : ∀ σ H Q, lowE K W (dMeth0 C m sp do_) σ H Q → tMethT C m (lowSp K sp) (WE W) (lowE K W do_) tNil σ H Q := fun σ H Q ⟨Z, ρ, x, G, Qd, sr, hr, h, c, xo⟩ =>
  ⟨Z, ρ, x, G, _, sr, hr, h, fun z v G1 H1 f1 r1 d1 ⟨p, fs, ez, g, hl, q⟩ => by
    subst ez
    cases d1
    obtain ⟨dx, fv, hp, pr⟩ := r1.at_ _ _ g
    refine ⟨p, dx, fv, rfl, hp, pr.nolook hl, ?_⟩
    exact ⟨Z, [.ref p], G1, Qd, x, .cons (.ref p) .nil, r1, q, Ret.mono f1 c, fun C fs d fv G3 H3 f3 r3 e n p q => xo C fs d fv G3 H3 (f1.trans f3) r3 e n p q⟩, xo⟩
theorem pd_meth {pl : Sem Bool} (c : Cls X.K C) (hm : Meth X.K C m f) (F : FnD X.prog X.w X.K X.mg X.base k f fd ps sp) (hr : Room k X.A) (hb : Binds X.K fd ps []) (tk : Takes X W) (ho : PD X W o do_) (ha : PDA X W (e :: es) t)
    (hst : starEach (e :: es) X.env = (false, eval e X.env) :: starEach es X.env := by rfl) (hpl : (backTo pos (starEach es X.env)).any (·.1) = false := by rfl)
    (ht : eval (.Call (.Attribute o m apos) (e :: es) [] pos) X.env = (do
      let ov ← eval o X.env
      standAt apos.atName
      let (f, first) ← holding [ov] (getMethod ov m pl)
      callWith pos f first (backTo pos (starEach (e :: es) X.env)) (backToKw pos (keywordEach [] X.env))) := by rfl) :
    PD X W (.Call (.Attribute o m apos) (e :: es) [] pos) (dMeth C m sp do_ t) := PE.imp (pe_methT (pl := pl) ho c hm F hr hb (fun σ => passAt tk σ) ha hst hpl ht) low_meth
theorem pd_meth0 {pl : Sem Bool} (c : Cls X.K C) (hm : Meth X.K C m f) (F : FnD X.prog X.w X.K X.mg X.base k f fd ps sp) (hr : Room k X.A) (hb : Binds X.K fd ps []) (tk : Takes X W) (ho : PD X W o do_)
    (ht : eval (.Call (.Attribute o m apos) [] [] pos) X.env = (do
      let ov ← eval o X.env
      standAt apos.atName
      let (f, first) ← holding [ov] (getMethod ov m pl)
      callWith pos f first (backTo pos (starEach [] X.env)) (backToKw pos (keywordEach [] X.env))) := by rfl) :
    PD X W (.Call (.Attribute o m apos) [] [] pos) (dMeth0 C m sp do_) := PE.imp (pe_methT0 (pl := pl) ho c hm F hr hb (fun σ => passAt tk σ) ht) low_meth0
end
/-! ### a memo: a dict of pairs of int tuples -/
abbrev NK := List Int × List Int
def nkN (k : NK) : NestedKey := .tup [.tup (k.1.map .num), .tup (k.2.map .num)]
def nkD (k : NK) : D := .tup [.tup (k.1.map D.int), .tup (k.2.map D.int)]
def KeyP (H : Hp) (k : NK) (a : Addr) : Prop := ∃ b c, H a = some (.tup [.ref b, .ref c]) ∧ H b = some (.tup (k.1.map V.int)) ∧ H c = some (.tup (k.2.map V.int))
theorem num_inj : ∀ {a b : List Int}, a.map NestedKey.num = b.map NestedKey.num → a = b
  | [], [], _ => rfl
  | x :: a, y :: b, h => by
    rw [List.map_cons, List.map_cons] at h
    injection h with h1 h2
    injection h1 with h1
    rw [h1, num_inj h2]
  | [], _ :: _, h => by cases h
  | _ :: _, [], h => by cases h
theorem nkN_inj {a b : NK} (h : nkN a = nkN b) : a = b := by
  unfold nkN at h
  injection h with h
  injection h with h1 h2
  injection h1 with h1
  injection h2 with h2 _
  injection h2 with h2
  exact Prod.ext (num_inj h1) (num_inj h2)
theorem num_depth : ∀ l : List Int, NestedKey.depthAll (l.map .num) = 0
  | [] => rfl
  | x :: l => by
    rw [List.map_cons]
    unfold NestedKey.depthAll
    rw [num_depth l] <;> rfl
theorem nkN_depth (k : NK) : (nkN k).depth ≤ 8 := by
  unfold nkN
  simp only [NestedKey.depth, NestedKey.depthAll, num_depth]
  decide
theorem dv_key {K : PySem.W.Frag} {Z : Addr → Prop} {G : GH} {H : Hp} {k : NK} {v : V} (d : DV K Z G H (nkD k) v) : ∃ a, v = .ref a ∧ KeyP H k a := by
  cases d with
  | tup n1 g1 h1 z1 r1 =>
    rename_i a vs
    obtain ⟨u, w, rfl, d1, d2⟩ := r1.two
    cases d1 with
    | tup n2 g2 h2 z2 r2 =>
      cases d2 with
      | tup n3 g3 h3 z3 r3 =>
        rename_i b us c ws
        refine ⟨a, rfl, b, c, h1, ?_, ?_⟩
        · rw [← r2.ints]; exact h2
        · rw [← r3.ints]; exact h3
section
variable {P : Program} {w : World} {H : Hp} {h : Heap} {a : Addr}
theorem nums_are {h : Heap} : ∀ {ns : List Int} {its : List Value}, Vals (ns.map V.int) its → NestedAll h (ns.map .num) its
  | [], _, .nil => .nil
  | n :: ns, _, .cons r t => by
    obtain ⟨tk, rfl⟩ := r
    exact .cons (.int n tk) (nums_are t)
theorem tup_is {ks : List NestedKey} {vs : List V} (ok : HOk P w H h) (e : H a = some (.tup vs)) (r : ∀ its, Vals vs its → NestedAll h ks its) : NestedIs h (.tup ks) (.ref a) := by
  obtain ⟨_, its, rv, o, h1, h2, n, h3⟩ := (show ObjOk P w H h a (.tup vs) from ok a _ e)
  exact .tup h1 h2 h3 (by simpa using r its rv)
theorem key_is {k : NK} (ok : HOk P w H h) (e : KeyP H k a) : (nestedKind P w).is h (nkN k) a := by
  obtain ⟨b, c, h1, h2, h3⟩ := e
  refine ⟨tup_is ok h1 fun its rv => ?_, nkN_depth k⟩
  cases rv with
  | cons r1 t1 =>
    cases t1 with
    | cons r2 t2 =>
      cases t2
      obtain rfl := (show _ = Value.ref b from r1)
      obtain rfl := (show _ = Value.ref c from r2)
      exact .cons (tup_is ok h2 fun _ => nums_are) (.cons (tup_is ok h3 fun _ => nums_are) .nil)
end
abbrev MK := NK × Addr × Bool
def encM (x : MK) : NestedKey × Addr × Value := (nkN x.1, x.2.1, .bool x.2.2)
def MemoO (w : World) (a : Addr) (xs : List MK) (h : Heap) : Prop := xs.length ≤ sizeLine ∧ (a == sysModules) = false ∧ (xs.map (·.1)).Nodup ∧
  ∃ o es ep, h.get? a = some o ∧ o.ExactDict ∧ o.data = .dict es ep ∧ es.toList = xs.map fun x => (⟨(nkN x.1).hash w, .ref x.2.1, .bool x.2.2⟩ : DictEntry)
def memoM (w : World) (a : Addr) (xs : List MK) : MO := .ext (MemoO w a xs) (xs.map fun x => (nkD x.1, x.2.1))
def mget (xs : List MK) (k : NK) : Option Bool := (xs.find? fun x => decide (x.1 = k)).map fun x => x.2.2
def mput (xs : List MK) (k : NK) (a : Addr) (b : Bool) : List MK := if (mget xs k).isSome then xs.map (fun x => if x.1 = k then (x.1, x.2.1, b) else x) else xs ++ [(k, a, b)]
theorem atKey_enc (xs : List MK) (k : NK) : (atKey (xs.map encM) (nkN k)).map (·.2) = (mget xs k).map Value.bool := by
  induction xs with
  | nil => rfl
  | cons x xs ih =>
    unfold atKey mget at *
    rw [List.map_cons, List.find?_cons, List.find?_cons]
    by_cases e : x.1 = k
    · have e2 : decide ((encM x).1 = nkN k) = true := decide_eq_true (congrArg nkN e)
      rw [e2, decide_eq_true e] <;> rfl
    · have e2 : decide ((encM x).1 = nkN k) = false := decide_eq_false fun z => e (nkN_inj z)
      rw [e2, decide_eq_false e]
      exact ih
theorem atKey_some (xs : List MK) (k : NK) : (atKey (xs.map encM) (nkN k)).isSome = (mget xs k).isSome := by
  have := congrArg Option.isSome (atKey_enc xs k)
  rwa [Option.isSome_map, Option.isSome_map] at this
theorem storedH_enc (xs : List MK) (k : NK) (a : Addr) (b : Bool) : storedH (xs.map encM) (nkN k) a (.bool b) = (mput xs k a b).map encM := by
  unfold storedH mput
  rw [atKey_some]
  split
  · rw [List.map_map, List.map_map]
    refine List.map_congr_left fun x _ => ?_
    show putAt (nkN k) (Value.bool b) (encM x) = encM (if x.1 = k then (x.1, x.2.1, b) else x)
    unfold putAt
    by_cases e : x.1 = k
    · rw [if_pos e, if_pos (show (encM x).1 = nkN k from congrArg nkN e)] <;> rfl
    · rw [if_neg e, if_neg (show ¬ (encM x).1 = nkN k from fun z => e (nkN_inj z))]
  · rw [List.map_append] <;> rfl
theorem mput_len (xs : List MK) (k : NK) (a : Addr) (b : Bool) : (mput xs k a b).length ≤ xs.length + 1 := by
  unfold mput
  split
  · rw [List.length_map]; omega
  · rw [List.length_append]; exact Nat.le_refl _
theorem mput_keys {xs : List MK} {k : NK} {c : Addr} {b : Bool} {Φ : NK → Addr → Prop} (h : ∀ q ∈ xs, Φ q.1 q.2.1) (hk : Φ k c) : ∀ q ∈ mput xs k c b, Φ q.1 q.2.1 := by
  unfold mput
  split
  · intro q hq
    obtain ⟨x, hx, rfl⟩ := List.mem_map.mp hq
    have := h x hx
    split <;> exact this
  · intro q hq
    rcases List.mem_append.mp hq with hq | hq
    · exact h q hq
    · rw [List.mem_singleton.mp hq]; exact hk
theorem mput_nd {xs : List MK} {k : NK} {c : Addr} {b : Bool} (h : (xs.map (·.1)).Nodup) : ((mput xs k c b).map (·.1)).Nodup := by
  unfold mput
  split
  · rw [List.map_map]
    have e : ((fun x : MK => x.1) ∘ fun x : MK => if x.1 = k then (x.1, x.2.1, b) else x) = fun x : MK => x.1 := by
      funext x
      show (if x.1 = k then (x.1, x.2.1, b) else x).1 = x.1
      split <;> rfl
    rw [e]
    exact h
  · rename_i hn
    rw [List.map_append]
    refine List.nodup_append.mpr ⟨h, List.pairwise_singleton _ _, fun x hx y hy e => ?_⟩
    rw [List.mem_singleton.mp hy] at e
    obtain ⟨q, hq, rfl⟩ := List.mem_map.mp hx
    apply hn
    unfold mget
    rw [Option.isSome_map]
    exact List.find?_isSome.mpr ⟨q, hq, decide_eq_true e⟩
theorem nkN_nodup : ∀ {l : List NK}, l.Nodup → (l.map nkN).Nodup
  | [], _ => List.nodup_nil
  | x :: l, h => by
    obtain ⟨h1, h2⟩ := List.nodup_cons.mp h
    rw [List.map_cons]
    exact List.nodup_cons.mpr ⟨fun hm => by
      obtain ⟨y, hy, e⟩ := List.mem_map.mp hm
      rw [nkN_inj e] at hy
      exact h1 hy, nkN_nodup h2⟩
section
variable {P : Program} {w : World} {H : Hp} {h : Heap} {a : Addr} {xs : List MK}
theorem memo_of (ok : HOk P w H h) (e : H a = some (.ext (MemoO w a xs))) (hk : ∀ q ∈ xs, KeyP H q.1 q.2.1) : xs.length ≤ sizeLine ∧ (a == sysModules) = false ∧ (xs.map (·.1)).Nodup ∧ h.DictOfH (nestedKind P w) a (xs.map encM) := by
  obtain ⟨⟨z, hd, nd, o, es, ep, h1, h2, h3, h4⟩, _⟩ := (show ObjOk P w H h a (.ext (MemoO w a xs)) from ok a _ e)
  refine ⟨z, hd, nd, o, es, ep, h1, h2, h3, by rw [h4, List.map_map]; rfl, fun x hx => ?_, ?_⟩
  · obtain ⟨q, hq, rfl⟩ := List.mem_map.mp hx
    exact key_is ok (hk q hq)
  · have := nkN_nodup nd
    rw [List.map_map] at this ⊢
    exact this
theorem memo_st (w : World) (a : Addr) (xs : List MK) : ∀ h1 h2 : Heap, MemoO w a xs h1 → (∀ o, h1.get? a = some o → h2.get? a = some o) → MemoO w a xs h2 := fun h1 h2 ⟨z, hd, nd, o, es, ep, e, r⟩ k => ⟨z, hd, nd, o, es, ep, k o e, r⟩
end
def rNInM (w : World) : R2 := fun x y H Q => ∃ a m xs k, x = .ref a ∧ y = .ref m ∧ H m = some (.ext (MemoO w m xs)) ∧ (∀ q ∈ xs, KeyP H q.1 q.2.1) ∧ KeyP H k a ∧ Q (.bl (!(mget xs k).isSome)) H
def rIxM (w : World) : R2 := fun y x H Q => ∃ a m xs k b, x = .ref a ∧ y = .ref m ∧ H m = some (.ext (MemoO w m xs)) ∧ (∀ q ∈ xs, KeyP H q.1 q.2.1) ∧ KeyP H k a ∧ mget xs k = some b ∧ Q (.bl b) H
def rSetM (w : World) : TSet := fun o i v H Q => ∃ a m xs k b, o = .ref m ∧ i = .ref a ∧ v = .bl b ∧ H m = some (.ext (MemoO w m xs)) ∧ (∀ q ∈ xs, KeyP H q.1 q.2.1) ∧ KeyP H k a ∧ xs.length < sizeLine ∧ Q (upd H m (.ext (MemoO w m (mput xs k a b))))
section
variable {X : Cx}
theorem room9 {A : Around} (hu : A.units + 65 < cLine) {P : Program} {w : World} : (nestedKind P w).room A.in1 := by
  show A.units + 1 + 8 < cLine
  omega
theorem op_nInM (hu : X.A.units + 65 < cLine) : OpR X (compareOp .NotIn) (rNInM X.w) := by
  intro pins s σ H x y v u Q I rx ry h
  obtain ⟨a, m, xs, k, rfl, rfl, hm, hk, hka, q⟩ := h
  obtain rfl := (show v = Value.ref a from rx)
  obtain rfl := (show u = Value.ref m from ry)
  obtain ⟨z, hd, nd, dd⟩ := memo_of I.hok hm hk
  refine wpAny_notIn_heap (room9 hu) (key_is I.hok hka) hd dd ?_
  rw [atKey_some]
  exact ⟨.bl _, H, I.tok _, rfl, q⟩
theorem ix_memo (hu : X.A.units + 65 < cLine) : IxR X (rIxM X.w) := by
  intro value slice pins s σ H y x v u Q I rx ry h hs
  obtain ⟨a, m, xs, k, b, rfl, rfl, hm, hk, hka, hg, q⟩ := h
  obtain rfl := (show v = Value.ref m from rx)
  obtain rfl := (show u = Value.ref a from ry)
  obtain ⟨z, hd, nd, dd⟩ := memo_of I.hok hm hk
  have e := atKey_enc xs k
  rw [hg] at e
  obtain ⟨p, hp, hp2⟩ := Option.map_eq_some_iff.mp e
  refine tail_any dd.typeIs PySem.F.slot_dict_getitem.lookup (wpAny_getItem_heap (room9 hu) (key_is I.hok hka) dd hp ?_) hs
  rw [hp2]
  exact ⟨.bl b, H, I.tok _, rfl, q⟩
theorem set_memo (hu : X.A.units + 65 < cLine) : PSet X (rSetM X.w) := by
  intro pins s σ H o i v ov iv u Q I ro ri rv h
  obtain ⟨a, m, xs, k, b, rfl, rfl, rfl, hm, hk, hka, hl, q⟩ := h
  obtain rfl := (show ov = Value.ref m from ro)
  obtain rfl := (show iv = Value.ref a from ri)
  obtain rfl := (show u = Value.bool b from rv)
  obtain ⟨z, hd, nd, dd⟩ := memo_of I.hok hm hk
  refine wpAny_setItem_heap (hsz := by rw [List.length_map]; exact z) (room9 hu) (key_is I.hok hka) dd fun h' dd' hs => ?_
  rw [storedH_enc] at dd'
  obtain ⟨q1, es, ep, g1, g2, g3, g4, _, g5⟩ := dd'
  have fo : MemoO X.w m (mput xs k a b) h' := ⟨Nat.le_trans (mput_len xs k a b) hl, hd, mput_nd nd, q1, es, ep, g1, g2, g3, by rw [g4, List.map_map]; rfl⟩
  exact ⟨_, d_write (ob := .ext (MemoO X.w m (mput xs k a b))) I (by rw [hm]; exact True.intro) hs ⟨q1, g1⟩ ⟨fo, ⟨q1, g1⟩, memo_st X.w m _⟩, q⟩
def tNewM (w : World) : TE := fun _ H Q => ∀ p, H p = none → Q (.ref p) (upd H p (.ext (MemoO w p [])))
theorem pe_dnewM {pos : Pos} : PE X (.Dict [] [] pos) (tNewM X.w) := ⟨fun pins s σ H Q I h => by
  have fo : MemoO X.w s.heap.objs.size [] (s.heap.push { cls := .type "dict", data := .dict #[] }) := ⟨Nat.zero_le _, beq_eq_false_iff_ne.mpr (Ne.symm (Nat.ne_of_lt I.big)), List.nodup_nil, _, #[], 0, Heap.get?_push_size _ rfl, ⟨rfl, rfl, rfl⟩, rfl, rfl⟩
  exact wpAny_Dict_empty ⟨.ref s.heap.objs.size, _, I.laid (a := s.heap.objs.size) (o := .ext (MemoO X.w s.heap.objs.size [])) (t' := s.toks) (fun _ _ q => Heap.get?_push_of_some _ q) (Nat.le_refl _) ⟨fo, ⟨_, Heap.get?_push_size _ rfl⟩, memo_st X.w _ _⟩, rfl, h _ (I.hok.fresh (Nat.le_refl _))⟩⟩
end
theorem memo_at {K : PySem.W.Frag} {Z : Addr → Prop} {G : GH} {H : Hp} {w : World} {m : Addr} {xs : List MK} (hr : HR K Z G H) (g : G m = some (memoM w m xs)) : H m = some (.ext (MemoO w m xs)) ∧ ∀ q ∈ xs, KeyP H q.1 q.2.1 := by
  obtain ⟨h1, h2⟩ := hr.at_ _ _ g
  refine ⟨h1, fun q hq => ?_⟩
  obtain ⟨a, e, h3⟩ := dv_key (h2 (nkD q.1, q.2.1) (List.mem_map.mpr ⟨q, hq, rfl⟩))
  injection e with e
  have e : q.2.1 = a := e
  rw [e]
  exact h3
def rdNInM (w : World) : RD2 := fun z y G Q => ∃ k m xs, z = nkD k ∧ y = .ref m ∧ G m = some (memoM w m xs) ∧ Q (.bl (!(mget xs k).isSome)) G
def rdIxM (w : World) : RD2 := fun y z G Q => ∃ k m xs b, z = nkD k ∧ y = .ref m ∧ G m = some (memoM w m xs) ∧ mget xs k = some b ∧ Q (.bl b) G
theorem opl_nInM {K : PySem.W.Frag} {w : World} : OpL K (rNInM w) (rdNInM w) := by
  rintro Z z y vz vy G H Qd Q hr dz dy ⟨k, m, xs, rfl, rfl, g, q⟩ c
  cases dy
  obtain ⟨a, rfl, hka⟩ := dv_key dz
  obtain ⟨h1, h2⟩ := memo_at hr g
  exact ⟨a, m, xs, k, rfl, rfl, h1, h2, hka, Ret.bl c hr q⟩
theorem opl_ixM {K : PySem.W.Frag} {w : World} : OpL K (rIxM w) (rdIxM w) := by
  rintro Z y z vy vz G H Qd Q hr dy dz ⟨k, m, xs, b, rfl, rfl, g, hg, q⟩ c
  cases dy
  obtain ⟨a, rfl, hka⟩ := dv_key dz
  obtain ⟨h1, h2⟩ := memo_at hr g
  exact ⟨a, m, xs, k, b, rfl, rfl, h1, h2, hka, hg, Ret.bl c hr q⟩
def dNewM (w : World) : DE := fun _ _ G Q => ∀ p, G p = none → Q (.ref p) (gup G p (memoM w p []))
def dSetM (w : World) (a o i : DE) : DS := fun D ρ G => a ρ (D.xx ρ) G fun z G1 => o ρ (D.xx ρ) G1 fun l G2 => i ρ (D.xx ρ) G2 fun y G3 => ∃ m xs k b, l = .ref m ∧ y = nkD k ∧ z = .bl b ∧ G3 m = some (memoM w m xs) ∧ xs.length < sizeLine ∧ ∀ c, D.nx ρ (gup G3 m (memoM w m (mput xs k c b)))
section
variable {X : Cx} {W : WX} {w : World} {a b e : Expr} {da db do_ di : DE} {pos : Pos}
theorem pd_newM (hw : w = X.w) : PD X W (.Dict [] [] pos) (dNewM w) := by
  subst hw
  exact PE.imp pe_dnewM fun σ H Q ⟨Z, ρ, x, G, Qd, sr, hr, h, c, xo⟩ p hp =>
    c (.ref p) _ _ _ (Fr.newT hp) (hr.newT (m := memoM X.w p []) hp ⟨upd_same, fun q hq => by cases hq⟩) (.ref p) (h p (hr.free hp))
theorem pd_nInM (hw : w = X.w) (hu : X.A.units + 65 < cLine) (ha : PD X W a da) (hb : PD X W b db) (hm : behindInMarks .NotIn b = false := by rfl) : PD X W (.Compare a [.NotIn] [b] pos) (dOp (rdNInM w) da db) := by
  subst hw
  exact pd_cmp (op_nInM hu) opl_nInM ha hb hm
theorem pdt_nInM (hw : w = X.w) (hu : X.A.units + 65 < cLine) (ha : PD X W a da) (hb : PD X W b db) (hm : behindInMarks .NotIn b = false := by rfl) : PDT X W (.Compare a [.NotIn] [b] pos) (dTest (dOp (rdNInM w) da db)) := by
  subst hw
  exact pdt_cmp (op_nInM hu) opl_nInM ha hb hm
theorem pd_ixM (hw : w = X.w) (hu : X.A.units + 65 < cLine) (ha : PD X W a da) (hb : PD X W b db) (hs : PlainIx b := by exact fun _ _ => rfl) : PD X W (.Subscript a b pos) (dOp (rdIxM w) da db) := by
  subst hw
  exact PE.imp (pe_ix (ix_memo hu) ha hb hs) (low_op opl_ixM)
theorem pds_setM {o i : Expr} {p' : Pos} (hw : w = X.w) (hu : X.A.units + 65 < cLine) (ha : PD X W e da) (ho : PD X W o do_) (hi : PD X W i di)
    (hs : swapsWithSole [.Subscript o i p'] e pos.line X.env = pure false := by rfl) (hsw : swappedStores [.Subscript o i p'] e X.env = pure none := by rfl) (h1 : (assignEach [.Subscript o i p'] X.env).map (·.2) = [assign (.Subscript o i p') X.env] := by rfl)
    (hg : ∀ v, assign (.Subscript o i p') X.env v = (do
      let ov ← holding [v] (eval o X.env)
      let iv ← holding [v, ov] (eval i X.env)
      standAt p'
      holding [v, ov, iv] (setItem ov iv v)
      release [v, ov, iv] []) := by intro _; rfl) : PDS X W (.Assign [.Subscript o i p'] e pos) (dSetM w da do_ di) := by
  subst hw
  exact PS.imp (ps_asg ha (pg_sub ho hi (set_memo hu) hg) hs hsw h1) fun E σ H ⟨Z, ρ, G, Dd, sr, hr, h, ok⟩ => ⟨Z, ρ, Dd.xx ρ, G, _, sr, hr, h, fun z v G1 H1 f1 r1 d1 q1 =>
    ⟨Z, ρ, Dd.xx ρ, G1, _, sr.mono f1, r1, q1, fun l lv G2 H2 f2 r2 d2 q2 => ⟨Z, ρ, Dd.xx ρ, G2, _, sr.mono (f1.trans f2), r2, q2, fun y yv G3 H3 f3 r3 d3 ⟨m, xs, k, b, el, ey, ez, g, hz, q⟩ => by
      subst el ey ez
      cases d2
      cases d1
      obtain ⟨c, rfl, hka⟩ := dv_key d3
      obtain ⟨hm1, hm2⟩ := memo_at r3 g
      refine ⟨c, m, xs, k, b, rfl, rfl, rfl, hm1, hm2, hka, hz, ?_⟩
      have f4 : Fr G3 H3 (gup G3 m (memoM X.w m (mput xs k c b))) (upd H3 m (.ext (MemoO X.w m (mput xs k c b)))) := Fr.put g
      have r4 : HR X.K Z (gup G3 m (memoM X.w m (mput xs k c b))) (upd H3 m (.ext (MemoO X.w m (mput xs k c b)))) := r3.put g ⟨upd_same, fun p hp => by
        obtain ⟨x, hx, rfl⟩ := List.mem_map.mp hp
        refine DV.mono f4 ?_
        exact mput_keys (Φ := fun k c => DV X.K Z G3 H3 (nkD k) (.ref c)) (fun q hq => (r3.at_ _ _ g).2 (nkD q.1, q.2.1) (List.mem_map.mpr ⟨q, hq, rfl⟩)) d3 x hx⟩
      exact ok.nx ρ σ _ _ (f1.trans (f2.trans (f3.trans f4))) r4 (sr.mono (f1.trans (f2.trans (f3.trans f4)))) (q c), (ok.xo sr).mono (f1.trans f2)⟩, (ok.xo sr).mono f1⟩, ok.xo sr⟩
end
/-! ### == and in, with told lists -/
def resM (G : GH) (z : D) : D := match z with
  | .ref a => match G a with
    | some (.lst ds) => .lst ds
    | _ => .ref a
  | z => z
theorem dpM {K : PySem.W.Frag} {Z : Addr → Prop} {G : GH} {H : Hp} {z : D} {v : V} {n : Nat} (hr : HR K Z G H) (d : DV K Z G H z v) (h : pureN n (resM G z) = true) : Dp K H v (toP (resM G z)) := by
  cases d with
  | ref a =>
    unfold resM at h ⊢
    simp only at h ⊢
    split at h
    · rename_i ds e
      obtain ⟨vs, h1, r1, z1⟩ := hr.at_ _ _ e
      cases n with
      | zero => unfold pureN at h; cases h
      | succ n =>
        unfold pureN at h
        rw [List.all_eq_true] at h
        try rw [e]
        try simp only
        rw [toP_lst]
        exact .lst (SqL.of h1) (DVs.dp r1 n h)
    · cases n <;> (unfold pureN at h; cases h)
  | non => exact DV.dp (K := K) (Z := Z) (G := G) (H := H) .non n h
  | bl b => exact DV.dp (K := K) (Z := Z) (G := G) (H := H) (.bl b) n h
  | int i => exact DV.dp (K := K) (Z := Z) (G := G) (H := H) (.int i) n h
  | str x => exact DV.dp (K := K) (Z := Z) (G := G) (H := H) (.str x) n h
  | ty t => exact DV.dp (K := K) (Z := Z) (G := G) (H := H) (.ty t) n h
  | dic a b c => exact DV.dp (.dic a b c) n h
  | tup a b c e f => exact DV.dp (.tup a b c e f) n h
  | lst a b c e f => exact DV.dp (.lst a b c e f) n h
  | scr a b => exact DV.dp (.scr a b) n h
def rdEqR : RD2 := fun z y G Q => ∃ n, n ≤ 60 ∧ pureN n (resM G z) = true ∧ pureN n (resM G y) = true ∧ Q (.bl (deq (resM G z) (resM G y))) G
theorem opl_eqR {K : PySem.W.Frag} : OpL K (rEqD K) rdEqR := by
  rintro Z z y vz vy G H Qd Q hr dz dy ⟨n, l, h1, h2, q⟩ c
  refine ⟨_, _, dpM hr dz h1, dpM hr dy h2, shaped_of h1 l, shaped_of h2 l, ?_⟩
  rw [eqv_deq _ _ n h1 h2]
  exact Ret.bl c hr q
def rdInLR : RD2 := fun z y G Q => ∃ n a ds, n ≤ 59 ∧ y = .ref a ∧ G a = some (.lst ds) ∧ pureN n z = true ∧ ds.all (pureN n) = true ∧ Q (.bl (ds.any fun d => deq d z)) G
theorem opl_inLR {K : PySem.W.Frag} : OpL K (rInD K) rdInLR := by
  rintro Z z y vz vy G H Qd Q hr dz dy ⟨n, a, ds, l, rfl, g, h1, h2, q⟩ c
  have er : resM G (.ref a) = .lst ds := by unfold resM; simp only [g]
  have h3 : pureN (n + 1) (resM G (.ref a)) = true := by rw [er]; unfold pureN; exact h2
  rw [List.all_eq_true] at h2
  have e := dpM hr dy h3
  have s3 := shaped_of h3 (by omega)
  rw [er, toP_lst] at e s3
  refine ⟨_, _, dz.dp n h1, e, shaped_of h1 (by omega), s3, ?_⟩
  rw [anyP h2 h1]
  exact Ret.bl c hr q
end TD
namespace TD
open PySem PySem.Spec PyProof.Rows L2
theorem fnD0 {P : Program} {w : World} {K : PySem.W.Frag} {mg : Str → Option Value} {base : Heap} {k : Nat} {f : Addr} {fd : FuncData} {ps : List Str} {sp : SpD} (h : ∀ zs G Q x, ¬ sp zs G Q x) : FnD P w K mg base k f fd ps sp :=
  ⟨fun vs H Q E ⟨Z, zs, G, Qd, x, dv, hr, q, c, xo⟩ => (h _ _ _ _ q).elim, fun A outer s H args us vs Q E hr he hb hv ⟨Z, zs, G, Qd, x, dv, hr2, q, c, xo⟩ => (h _ _ _ _ q).elim⟩
end TD
/-! # texts: join, split, index, a sign in a text, str(n), int(text), text * n -/
namespace TD
open PySem PySem.Spec PyProof.Rows L2
theorem dvs_strs {K : PySem.W.Frag} {Z : Addr → Prop} {G : GH} {H : Hp} : ∀ {ys : List Str} {vs : List V}, DVs K Z G H (ys.map D.str) vs → vs = ys.map V.str
  | [], _, h => by cases h; rfl
  | y :: ys, _, h => by
    rw [List.map_cons] at h
    cases h with
    | cons a b =>
      cases a
      rw [dvs_strs b] <;> rfl
theorem strs_dvs {K : PySem.W.Frag} {Z : Addr → Prop} {G : GH} {H : Hp} : ∀ (ys : List Str), DVs K Z G H (ys.map D.str) (ys.map V.str)
  | [] => .nil
  | y :: ys => .cons (.str y) (strs_dvs ys)
abbrev rJoin (K : PySem.W.Frag) : V → List V → Hp → VK → Prop := fun x xs H Q => ∃ a p, ∃ ys : List Str, x = .str a ∧ xs = [.ref p] ∧ (SqL K H p (ys.map V.str) ∨ SqT K H p (ys.map V.str)) ∧
    (ys.map (·.length)).sum + ys.length * a.length ≤ 16777216 ∧ Q (.str (Txt.join a ys)) H
theorem mt_joinR {X : Cx} : MtR X "str.join" (rJoin X.K) := mt_join
def rdJoin : RDM := fun z zs G Q => ∃ a, ∃ ys : List Str, z = .str a ∧ zs = [.lst (ys.map D.str)] ∧ (ys.map (·.length)).sum + ys.length * a.length ≤ 16777216 ∧ Q (.str (Txt.join a ys)) G
theorem mth_join {K : PySem.W.Frag} : MthL K "str" (rJoin K) rdJoin := by
  rintro Z z zs v vs G H Qd Q hr dz ds ⟨a, ys, rfl, rfl, hz, q⟩ c
  cases dz
  obtain ⟨u, rfl, du⟩ := ds.one
  cases du with
  | lst n1 g1 h1 z1 r1 =>
    have e := dvs_strs r1
    subst e
    exact ⟨a, _, ys, rfl, rfl, .inl (SqL.of h1), hz, c.here hr (.str _) q⟩
abbrev rSplit : V → List V → Hp → VK → Prop := fun x xs H Q => ∃ a b, x = .str a ∧ xs = [.str b] ∧ (b.length == 0) = false ∧ a.length + 2 ≤ sizeLine ∧ rNewStrs (Txt.split a b) H Q
theorem mt_splitR {X : Cx} : MtR X "str.split" rSplit := mt_split
def rdSplit : RDM := fun z zs G Q => ∃ a b, z = .str a ∧ zs = [.str b] ∧ (b.length == 0) = false ∧ a.length + 2 ≤ sizeLine ∧ Q (.lst ((Txt.split a b).map D.str)) G
theorem mth_split {K : PySem.W.Frag} : MthL K "str" rSplit rdSplit := by
  rintro Z z zs v vs G H Qd Q hr dz ds ⟨a, b, rfl, rfl, hb, hz, q⟩ c
  cases dz
  obtain ⟨u, rfl, du⟩ := ds.one
  cases du
  refine ⟨a, b, rfl, rfl, hb, hz, fun p hp => Ret.lst c hr hp (strs_dvs _) ?_ q⟩
  rw [List.length_map]
  exact Nat.le_trans (PyProof.Rows.split_le a b) hz
abbrev rIdxS : V → List V → Hp → VK → Prop := fun x xs H Q => ∃ a b k, x = .str a ∧ xs = [.str b] ∧ Txt.index0 a b = some k ∧ Q (.int ((k : Nat) : Int)) H
theorem mt_idxS {X : Cx} : MtR X "str.index" rIdxS := by
  intro pins s σ H x xs v us Q I rx rs h
  obtain ⟨a, b, k, rfl, rfl, hk, q⟩ := h
  obtain ⟨t, rfl⟩ := rx
  cases rs with
  | cons r1 rs =>
    cases rs
    obtain ⟨u, rfl⟩ := r1
    cases e : Builtin.Str.occurrences a b 0 a.length 1 with
    | nil => unfold Txt.index0 at hk; rw [e] at hk; cases hk
    | cons j rest =>
      have hj : j = k := by
        unfold Txt.index0 at hk
        rw [e] at hk
        exact Option.some.inj hk
      subst hj
      exact PySem.SC.index e ⟨.int ((j : Nat) : Int), H, I.tok _, ⟨_, rfl⟩, q⟩
def rdIdxS : RDM := fun z zs G Q => ∃ a b k, z = .str a ∧ zs = [.str b] ∧ Txt.index0 a b = some k ∧ Q (.int ((k : Nat) : Int)) G
theorem mth_idxS {K : PySem.W.Frag} : MthL K "str" rIdxS rdIdxS := by
  rintro Z z zs v vs G H Qd Q hr dz ds ⟨a, b, k, rfl, rfl, hk, q⟩ c
  cases dz
  obtain ⟨u, rfl, du⟩ := ds.one
  cases du
  exact ⟨a, b, k, rfl, rfl, hk, c.here hr (.int _) q⟩
/-- one sign in a text -/
def rdInS : RD2 := fun z y G Q => ∃ (c : Nat) (w : Str), z = .str ⟨#[c]⟩ ∧ y = .str w ∧ Q (.bl (decide (c ∈ w.cps.toList))) G
def rdNinS : RD2 := fun z y G Q => ∃ (c : Nat) (w : Str), z = .str ⟨#[c]⟩ ∧ y = .str w ∧ Q (.bl (!decide (c ∈ w.cps.toList))) G
theorem opl_inS {K : PySem.W.Frag} : OpL K (fun x y H Q => ∃ (c : Nat) (z : Str), x = .str ⟨#[c]⟩ ∧ y = .str z ∧ Q (.bl (decide (c ∈ z.cps.toList))) H) rdInS := by
  rintro Z z y vz vy G H Qd Q hr dz dy ⟨i, w, rfl, rfl, q⟩ c
  cases dz; cases dy
  exact ⟨i, w, rfl, rfl, Ret.bl c hr q⟩
theorem opl_ninS {K : PySem.W.Frag} : OpL K (fun x y H Q => ∃ (c : Nat) (z : Str), x = .str ⟨#[c]⟩ ∧ y = .str z ∧ Q (.bl (!decide (c ∈ z.cps.toList))) H) rdNinS := by
  rintro Z z y vz vy G H Qd Q hr dz dy ⟨i, w, rfl, rfl, q⟩ c
  cases dz; cases dy
  exact ⟨i, w, rfl, rfl, Ret.bl c hr q⟩
/-- str(n), int(text) -/
def rdStrI : RDC := fun zs G Q => ∃ i : Int, zs = [.int i] ∧ i.natAbs.log2 < 1920 ∧ Q (.str (toString i)) G
theorem cll_strI {K : PySem.W.Frag} : CallL K (fun xs H Q => ∃ i, xs = [.int i] ∧ i.natAbs.log2 < 1920 ∧ Q (.str (toString i)) H) rdStrI := by
  rintro Z zs vs G H Qd Q hr ds ⟨i, rfl, hz, q⟩ c
  obtain ⟨v, rfl, d⟩ := ds.one
  cases d
  exact ⟨i, rfl, hz, c.here hr (.str _) q⟩
def rdIntS : RDC := fun zs G Q => ∃ a n, zs = [.str a] ∧ PySem.intText? a = some n ∧ a.length ≤ 640 ∧ Q (.int n) G
theorem cll_intS {K : PySem.W.Frag} : CallL K (fun xs H Q => ∃ a n, xs = [.str a] ∧ PySem.intText? a = some n ∧ a.length ≤ 640 ∧ Q (.int n) H) rdIntS := by
  rintro Z zs vs G H Qd Q hr ds ⟨a, n, rfl, hn, hl, q⟩ c
  obtain ⟨v, rfl, d⟩ := ds.one
  cases d
  exact ⟨a, n, rfl, hn, hl, c.here hr (.int _) q⟩
/-- text * n -/
def manyS (x : Str) (n : Nat) : Str := ⟨(List.replicate n x.cps).foldl (· ++ ·) #[]⟩
def rMulS : R2 := fun x y H Q => ∃ (a : Str) (n : Nat), x = .str a ∧ y = .int (n : Int) ∧ 1 < n ∧ n ≤ 100000 ∧ a.length = 1 ∧ (manyS a n).length ≤ sizeLine ∧ Q (.str (manyS a n)) H
def rdMulS : RD2 := fun z y G Q => ∃ (a : Str) (n : Nat), z = .str a ∧ y = .int (n : Int) ∧ 1 < n ∧ n ≤ 100000 ∧ a.length = 1 ∧ (manyS a n).length ≤ sizeLine ∧ Q (.str (manyS a n)) G
theorem opr_mulS {X : Cx} : OpR X (binaryOp .Mult) rMulS := by
  intro pins s σ H x y v u Q I rx ry h
  obtain ⟨a, n, rfl, rfl, h1, h2, h3, h4, q⟩ := h
  obtain ⟨t, rfl⟩ := rx
  obtain ⟨t', rfl⟩ := ry
  have n1 : ¬ ((n : Int) < 1) := by omega
  have n2 : ((n : Int) == 1 || a.length == 0) = false := by
    have e1 : ((n : Int) == 1) = false := beq_eq_false_iff_ne.mpr (by omega)
    have e2 : (a.length == 0) = false := beq_eq_false_iff_ne.mpr (by omega)
    rw [e1, e2] <;> rfl
  refine PySem.P.mul_str ?_ (fun _ _ => ?_) (fun _ _ => ?_) ?_
  · rw [decide_eq_false (by omega), decide_eq_false (by omega)] <;> rfl
  · rw [h3]
    have : (1 : Int) ≤ (2 ^ 63 - 1) / (n : Int) := by
      rw [Int.le_ediv_iff_mul_le (by omega)]
      omega
    show ¬ ((1 : Int) > _)
    omega
  · rw [h3, Int.toNat_natCast, Nat.one_mul]
    exact decide_eq_false (by rw [sizeLine_eq]; omega)
  · rw [if_neg n1, if_neg (by rw [n2]; exact Bool.false_ne_true)]
    rw [Int.toNat_natCast]
    exact ⟨h4, .str (manyS a n), H, I.tok _, ⟨_, rfl⟩, q⟩
theorem opl_mulS {K : PySem.W.Frag} : OpL K rMulS rdMulS := by
  rintro Z z y vz vy G H Qd Q hr dz dy ⟨a, n, rfl, rfl, h1, h2, h3, h4, q⟩ c
  cases dz; cases dy
  exact ⟨a, n, rfl, rfl, h1, h2, h3, h4, c.here hr (.str _) q⟩
end TD
/-! # repr of plain data, and defs whose promise holds where no repr is under way -/
namespace TD
open PySem PySem.Spec PyProof.Rows L2
/-- == and != of texts, of whatever signs -/
def rEqS : R2 := fun x y H Q => ∃ i j : Str, x = .str i ∧ y = .str j ∧ Q (.bl (i.cps.toList == j.cps.toList)) H
def rNeS : R2 := fun x y H Q => ∃ i j : Str, x = .str i ∧ y = .str j ∧ Q (.bl (i.cps.toList != j.cps.toList)) H
theorem op_eqS {X : Cx} : OpR X (compareOp .Eq) rEqS := by
  intro pins s σ H x y v u Q I rx ry h
  obtain ⟨i, j, rfl, rfl, q⟩ := h
  obtain ⟨t, rfl⟩ := rx
  obtain ⟨t', rfl⟩ := ry
  exact PySem.P.eq_str (fin_bl I q rfl)
theorem op_neS {X : Cx} : OpR X (compareOp .NotEq) rNeS := by
  intro pins s σ H x y v u Q I rx ry h
  obtain ⟨i, j, rfl, rfl, q⟩ := h
  obtain ⟨t, rfl⟩ := rx
  obtain ⟨t', rfl⟩ := ry
  exact PySem.P.ne_str (fin_bl I q rfl)
theorem str_beq {i j : Str} : (i.cps.toList == j.cps.toList) = decide (i = j) := by
  by_cases h : i = j
  · subst h
    rw [decide_eq_true rfl] <;> exact beq_self_eq_true _
  · rw [decide_eq_false h]
    exact beq_eq_false_iff_ne.mpr fun e => h (TL.ext_tl e)
def rdEqS : RD2 := fun z y G Q => ∃ i j : Str, z = .str i ∧ y = .str j ∧ Q (.bl (decide (i = j))) G
def rdNeS : RD2 := fun z y G Q => ∃ i j : Str, z = .str i ∧ y = .str j ∧ Q (.bl (!decide (i = j))) G
theorem opl_eqS {K : PySem.W.Frag} : OpL K rEqS rdEqS := by
  rintro Z z y vz vy G H Qd Q hr dz dy ⟨i, j, rfl, rfl, q⟩ c
  cases dz; cases dy
  refine ⟨i, j, rfl, rfl, ?_⟩
  rw [str_beq]
  exact Ret.bl c hr q
theorem opl_neS {K : PySem.W.Frag} : OpL K rNeS rdNeS := by
  rintro Z z y vz vy G H Qd Q hr dz dy ⟨i, j, rfl, rfl, q⟩ c
  cases dz; cases dy
  refine ⟨i, j, rfl, rfl, ?_⟩
  have e : (i.cps.toList != j.cps.toList) = !decide (i = j) := by rw [← str_beq] <;> rfl
  rw [e]
  exact Ret.bl c hr q
/-- repr(a tuple of plain data) -/
def rRepr (K : PySem.W.Frag) : List V → Hp → VK → Prop := fun xs H Q => ∃ a d, xs = [.ref a] ∧ Dp K H (.ref a) d ∧ d.showable = true ∧ d.hasDict = false ∧ d.depth ≤ 60 ∧ d.shown.length ≤ sizeLine ∧ Q (.str d.shown) H
theorem cr_repr {X : Cx} (hg : X.A.guards = some []) (hu : X.A.units + 65 < cLine) : CallR X (.builtin "repr") (rRepr X.K) := by
  intro pins s σ H xs us Q I r h
  obtain ⟨a, d, rfl, hd, hs, hn, hp, hz, q⟩ := h
  obtain ⟨u, rfl, ru⟩ := vals1 r
  obtain ⟨as, hr⟩ := Dp.reads I d _ _ hd ru
  obtain rfl : u = Value.ref a := ru
  refine repr_of_reads' hr hs (PyData.noDict_hsm hn) hg (by omega) (fun _ _ e => e) (fun h' t tk hk => ?_) hz
  exact ⟨.str d.shown, H, I.kept hk, ⟨t, rfl⟩, q⟩
def rdRepr : RDC := fun zs G Q => ∃ ds, zs = [.tup ds] ∧ pureN 60 (.tup ds) = true ∧ (toP (.tup ds)).showable = true ∧ (toP (.tup ds)).shown.length ≤ sizeLine ∧ Q (.str (toP (.tup ds)).shown) G
theorem cll_repr {K : PySem.W.Frag} : CallL K (rRepr K) rdRepr := by
  rintro Z zs vs G H Qd Q hr dz ⟨ds, rfl, hp, hs, hl, q⟩ c
  obtain ⟨v, rfl, d⟩ := dz.one
  obtain ⟨h1, h2⟩ := pureN_ok 60 _ hp
  have dp := d.dp 60 hp
  cases d with
  | tup n1 g1 e1 z1 r1 => exact ⟨_, _, rfl, dp, hs, PyData.hasDict_of_canLay _ h1, h2, hl, c.here hr (.str _) q⟩
/-- a def's promise where no repr is under way -/
structure FnG (P : Program) (w : World) (K : PySem.W.Frag) (mg : Str → Option Value) (base : Heap) (k : Nat) (f : Addr) (fd : FuncData) (ps : List Str) (sp : SpD) : Prop where
  len : ∀ vs H Q E, lowSp K sp vs H Q E → vs.length = ps.length
  run : ∀ (A : Around), A.guards = some [] → ∀ (outer : List Env) (s : Shared) (H : Hp) (args : Args) (us : List Value) (vs : List V) (Q : VK) (E : XK), Room k A → Env0 P w K mg base A outer s H → BindsTo s fd args (ps.zip us) → Vals vs us → lowSp K sp vs H Q E →
    codeAny (model P w) A (.call (.ref f) args) (CR (L2.CX P w) outer P w H s Q E) s
section
variable {P : Program} {w : World} {K : PySem.W.Frag} {mg : Str → Option Value} {base : Heap}
theorem fnGc {x : Str} {st : Stmt} {N ps : List Str} {k : Nat} {sp : SpD} {ds : DS} (T : Fn K mg x st ps) {c : Addr} (hc : T.fd.code = .ref c) (S : FnScope N ps (defScope st)) (len : ∀ zs G Q x, sp zs G Q x → zs.length = ps.length)
    (der : ∀ (A : Around) (outer : List Env) (s : Shared) (H : Hp) (E : XK), A.guards = some [] → Room k (A.deeper (envOfC x (defScope st) s.heap.objs.size T.f (.ref c))) →
      Takes (cxOf (L2.CX P w) P w K mg base N x (defScope st) T.f (.ref c) A outer s H E) (fun c d _ H' => E c d H') →
      PDSs (cxOf (L2.CX P w) P w K mg base N x (defScope st) T.f (.ref c) A outer s H E) (fun c d _ H' => E c d H') (defBody st) ds)
    (read : ∀ (zs : List D) (G : GH) (Q : DK) (x : XD), sp zs G Q x → ds { nx := fun _ G' => Q .non G', rt := Q, xx := fun _ => x } (dstart N zs) G) : FnG P w K mg base (k + 1) T.f T.fd ps sp := by
  obtain ⟨oc, od, kV, doc, pm, an, cdv, ct, osl, e, lk, hcd⟩ := T.F.ex
  obtain rfl : cdv = .ref c := by rw [e] at hc; exact hc
  rw [e] at lk ⊢
  have hlen : ∀ vs H Q E, lowSp K sp vs H Q E → vs.length = ps.length := fun vs H Q E ⟨Z, zs, G, Qd, x, dv, hr, h, c, xo⟩ => by rw [← dv.length]; exact len zs G Qd x h
  refine ⟨hlen, fun A hg outer s H args us vs Q E hroom e0 hb rv hsp => LamX.run_ofS lk hcd S hroom e0 hb rv (hlen _ _ _ _ hsp) fun hr' => ?_⟩
  obtain ⟨Z, zs, G, Qd, x, dv, hr, h, c, xo⟩ := hsp
  refine ⟨_, der A outer s H E hg hr' (takes_of rfl rfl rfl rfl), Z, dstart N zs, G, _, sr_start dv, hr, read zs G Qd x h, ?_⟩
  exact ⟨fun ρ' σ' G' H' f' r' s' q' => c .non .non G' H' f' r' .non q', fun z v G' H' f' r' d' q' => c z v G' H' f' r' d' q', fun _ _ _ _ _ _ _ q => q.elim, fun _ _ _ _ _ _ _ q => q.elim, fun ρ' σ' G' H' f' s' => xo.mono f'⟩
end
section
variable {X : Cx} {W : WX} {k : Nat} {f : Addr} {fd : FuncData} {ps : List Str} {sp : SpD} {x : Str} {p pos : Pos} {e : Expr} {es : List Expr} {t : DA}
theorem run_fnG {E : L2.St → XK} {pins : List (Addr × Obj)} {σ : L2.St} {H : Hp} {s : Shared} {Q : VK} {us : List Value} {vs : List V} (F : FnG X.prog X.w X.K X.mg X.base k f fd ps sp) (hgd : X.A.guards = some []) (hr : Room k X.A) (hb : Binds X.K fd ps []) (hx : PassesAt (L2.CX X.prog X.w) X σ (E σ))
    (I : Inv X pins σ H s) (r : Vals vs us) (h : lowSp X.K sp vs H Q (E σ)) : wpAny (model X.prog X.w) X.A (call (.ref f) us) (EP X pins σ Q) X.xe s := by
  have b := hb s us I.kIn (by rw [List.append_nil, ← r.length]; exact F.len _ _ _ _ h)
  rw [List.append_nil] at b
  refine wpAny_call (codeAny_mono (F.run X.A hgd X.stack s H ⟨us, []⟩ us vs Q (E σ) hr I.env0 b r h) fun r s' hq => ?_)
  cases r with
  | error e => exact hx pins H s e s' I hq
  | ok fl => cases fl <;> first | exact I.after hq | exact hq.elim
theorem peG (F : FnG X.prog X.w X.K X.mg X.base k f fd ps sp) (hgd : X.A.guards = some []) (hr : Room k X.A) (hm : X.mg x = some (.ref f)) (hk : PySem.W.keepIn X.K (.ref f) = true) (hb : Binds X.K fd ps []) (tk : Takes X W) (ha : PDA X W (e :: es) t) (hg : Gl X x)
    (hdb : (x == ("__debug__" : Str)) = false) (he : starEach (e :: es) X.env = (false, eval e X.env) :: starEach es X.env) (hpl : (backTo pos (starEach es X.env)).any (·.1) = false) :
    PE X (.Call (.Name x p) (e :: es) [] pos) (tCallS (lowSp X.K sp) (WE W) (lowA X.K W t)) := ⟨fun pins s σ H Q I h => by
  refine wpAny_Call_Name_kw (ld_glob I hg hm ?_ hdb)
  refine PySem.W.callWith_K (h₀ := X.base) I.ok.mod.kin hk (thn (ha.run pos pins s σ H _ I h) fun us s1 hh => ?_) he hpl
  obtain ⟨vs, H1, I1, r, q⟩ := hh
  exact ⟨I1.kIn, run_fnG F hgd hr hb (passAt tk σ) I1 r q⟩⟩
theorem pd_callG (F : FnG X.prog X.w X.K X.mg X.base k f fd ps sp) (hgd : X.A.guards = some []) (hr : Room k X.A) (hm : X.mg x = some (.ref f)) (hk : PySem.W.keepIn X.K (.ref f) = true) (hb : Binds X.K fd ps []) (tk : Takes X W) (ha : PDA X W (e :: es) t) (hg : Gl X x := by rfl)
    (hdb : (x == ("__debug__" : Str)) = false := by decide) (he : starEach (e :: es) X.env = (false, eval e X.env) :: starEach es X.env := by rfl) (hpl : (backTo pos (starEach es X.env)).any (·.1) = false := by rfl) :
    PD X W (.Call (.Name x p) (e :: es) [] pos) (dCall sp t) :=
  PE.imp (peG F hgd hr hm hk hb tk ha hg hdb he hpl) low_call
end
end TD
namespace TD
open PySem PySem.Spec PyProof.Rows L2
/-! ### the end, where the script is the one thing and the tables are the others that are told -/
section
variable {l : PySem.W.OpenLaw}
def LawG (l : PySem.W.OpenLaw) (w : World) (K : PySem.W.Frag) (k n : Nat) (x : Str) (mg : Str → Option Value) (fa : Addr) (h : Heap) : Prop :=
  ∃ (fd : FuncData) (cs : List (Addr × Addr)) (sp : SpD), (∀ p ∈ cs, h.get? p.2 = some { cls := .none, data := .fields #[] }) ∧ (∀ p ∈ cs, K.lookup p.2 = none) ∧ (∀ p ∈ cs, PySem.W.CodeHd h p.1 p.2) ∧ (∀ (s : Shared) (u : Value), BindsTo s fd ⟨[u], []⟩ [(x, u)]) ∧
    (∀ (H : Hp) (a : Addr) (ns : List Int), ns.length ≤ n → (∀ z ∈ ns, Builtin.Int.intBits z ≤ 1048576) → (∀ p ∈ cs, H p.2 = some (.tbl #[])) → SqL K H a (ns.map V.int) → lowSp K sp [.ref a] H (fun v _ => v = .bl true) fun _ _ _ => False) ∧
    ∀ base : Heap, K.In base → base.Ns mainGlobals mg → (∀ p ∈ cs, LamX.TabB base mg p.1 p.2) → FnG l.prog w K mg base k fa fd [x] sp
open Classical in
/-- what is told at the start -/
noncomputable def told0 (T : List Addr) (K : PySem.W.Frag) (a : Addr) (u : HO) : Hp := fun b => if b ∈ T then some (.tbl #[]) else if b = a ∧ K.lookup a = none then some u else none
theorem told0_T {T : List Addr} {K : PySem.W.Frag} {a b : Addr} {u : HO} (h : b ∈ T) : told0 T K a u b = some (.tbl #[]) := if_pos h
theorem told0_a {T : List Addr} {K : PySem.W.Frag} {a : Addr} {u : HO} (h : a ∉ T) (hk : K.lookup a = none) : told0 T K a u a = some u := (if_neg h).trans (if_pos ⟨rfl, hk⟩)
theorem told0_none {T : List Addr} {K : PySem.W.Frag} {a b : Addr} {u : HO} (h : b ∉ T) (hb : b = a → K.lookup a ≠ none) : told0 T K a u b = none := (if_neg h).trans (if_neg fun z => hb z.1 z.2)
theorem told0_some {T : List Addr} {K : PySem.W.Frag} {a b : Addr} {u o : HO} (h : told0 T K a u b = some o) : (b ∈ T ∧ o = .tbl #[]) ∨ (b = a ∧ b ∉ T ∧ K.lookup a = none ∧ o = u) := by
  by_cases hT : b ∈ T
  · rw [told0_T hT] at h
    exact .inl ⟨hT, (Option.some.inj h).symm⟩
  · unfold told0 at h
    rw [if_neg hT] at h
    split at h
    · rename_i c
      exact .inr ⟨c.1, hT, c.2, (Option.some.inj h).symm⟩
    · cases h
theorem law_runG {w : World} {K : PySem.W.Frag} {k n : Nat} {x : Str} {mg mb : Str → Option Value} {fa a : Addr} {s : Shared} {vs : List Value} {ns : List Int} (L : LawG l w K k n x mg fa s.heap) (KX : K.In s.heap) (hr : Room k callerA) (hn : n ≤ sizeLine)
    (g0 : s.heap.Ns mainGlobals mg) (b0 : s.heap.Ns builtinsNs mb) (bb : ∀ x : Str, x ≠ "__name__" → mb x = bootBuiltins x) (lim : s.heap.NoLimit) (gens : s.gens = #[])
    (bmain : ∃ (bm : Addr) (ob : Obj), mg "__builtins__" = some (.ref bm) ∧ bm ≠ builtinsNs ∧ s.heap.get? bm = some ob ∧ ob.cls = .type "module" ∧ ob.dict = some builtinsNs ∧ ob.data = .plain)
    (ha : s.heap.get? a = some { cls := .type "list", data := .seq vs.toArray }) (iv : IntsAre vs ns) (hln : ns.length ≤ n) (bits : ∀ z ∈ ns, Builtin.Int.intBits z ≤ 1048576) :
    codeAny (model l.prog w) callerA (.call (.ref fa) ⟨[.ref a], []⟩) (fun r s' => r = .ok (.ret (.bool true)) ∧ OldK s.heap s'.heap ∧ s'.os = s.os ∧ AllBare s'.gens) s := by
  obtain ⟨fd, cs, sp, tabs, outK, heads, bind, start, F⟩ := L
  have T0 : ∀ b, b ∈ cs.map (·.2) → s.heap.get? b = some { cls := .none, data := .fields #[] } := by
    intro b hb
    rcases List.mem_map.mp hb with ⟨p, hp, rfl⟩
    exact tabs p hp
  have K0 : ∀ b, b ∈ cs.map (·.2) → K.lookup b = none := by
    intro b hb
    rcases List.mem_map.mp hb with ⟨p, hp, rfl⟩
    exact outK p hp
  have inT : ∀ p, p ∈ cs → p.2 ∈ cs.map (·.2) := fun p hp => List.mem_map_of_mem hp
  have aT : a ∉ cs.map (·.2) := fun z => by
    have e := T0 a z
    rw [ha] at e
    simp at e
  have long : (ns.map V.int).length ≤ sizeLine := by rw [List.length_map]; omega
  have rv := vals_ints iv
  obtain ⟨H, hH⟩ : ∃ H, H = told0 (cs.map (·.2)) K a (.frz { cls := .type "list", data := .seq vs.toArray } (.lst (ns.map V.int))) := ⟨_, rfl⟩
  have okH : HOk l.prog w H s.heap := by
    intro b o h
    rw [hH] at h
    rcases told0_some h with ⟨hb, rfl⟩ | ⟨rfl, _, _, rfl⟩
    · exact T0 b hb
    · exact ⟨ha, long, vs, _, rv, ha⟩
  have clear : ∀ (b : Addr) (o : Obj), s.heap.get? b = some o → (∀ v i, o.data ≠ .seq v i) → o.data ≠ .fields #[] → H b = none := by
    intro b o e h1 h2
    rw [hH]
    refine told0_none (fun z => ?_) (fun z => ?_)
    · rw [T0 b z] at e
      cases e
      exact h2 rfl
    · subst z
      rw [ha] at e
      cases e
      exact absurd rfl (h1 _ _)
  have see : ∀ (b : Addr) (o : Obj), s.heap.get? b = some o → (∀ v i, o.data ≠ .seq v i) → o.data ≠ .fields #[] → (hidT s.heap H).get? b = some o := fun b o e h1 h2 => hidT_get e (clear b o e h1 h2)
  have seeN : ∀ (b : Addr) (m : Str → Option Value), s.heap.Ns b m → (hidT s.heap H).Ns b m := by
    intro b m hm
    obtain ⟨o, es, ep, e, hd, r⟩ := hm
    exact ⟨o, es, ep, see b o e (fun v i z => by rw [hd] at z; cases z) (fun z => by rw [hd] at z; cases z), hd, r⟩
  have seeK : K.In (hidT s.heap H) := by
    intro b o e
    refine hidT_get (KX b o e) ?_
    rw [hH]
    refine told0_none (fun z => ?_) (fun z => ?_)
    · rw [K0 b z] at e
      cases e
    · subst z
      rw [e]
      exact fun z => nomatch z
  have md : L2.Mod K mg (hidT s.heap H) := by
    obtain ⟨mc, l1, l2⟩ := lim
    exact ⟨seeK, seeN _ _ g0, ⟨mb, seeN _ _ b0, bb⟩, ⟨mc, seeN _ _ l1, l2⟩⟩
  have gNot : ∀ b o, s.heap.get? b = some o → (∀ es ep, o.data ≠ .dict es ep) → b ≠ mainGlobals := by
    intro b o e h z
    obtain ⟨o2, es, ep, e2, hd, _⟩ := g0
    subst z
    rw [e2] at e
    cases e
    exact h _ _ hd
  have tb : ∀ p ∈ cs, LamX.TabB (hidT s.heap H) mg p.1 p.2 := by
    intro p hp
    refine ⟨?_, ?_, fun z => gNot p.2 _ (tabs p hp) (fun es ep z => nomatch z) z.symm⟩
    · obtain ⟨o, us, file, tf, flags, tg, inF, text, tt, e, cl, hd, h11, rest⟩ := heads p hp
      refine ⟨o, us, file, tf, flags, tg, inF, text, tt, see _ _ e (fun v i z => ?_) (fun z => ?_), cl, hd, h11, rest⟩
      · rw [hd] at z
        cases z
      · rw [hd] at z
        cases z
        simp at h11
    · obtain ⟨bm, ob, m1, m2, m3, m4, m5, m6⟩ := bmain
      refine ⟨bm, ob, m1, m2, gNot bm ob m3 (fun es ep z => by rw [m6] at z; cases z), fun z => ?_, see _ _ m3 (fun v i z => by rw [m6] at z; cases z) (fun z => by rw [m6] at z; cases z), m4, m5, m6⟩
      rw [z, tabs p hp] at m3
      cases m3
      cases m6
  have sq : SqL K H a (ns.map V.int) := by
    cases hk : K.lookup a with
    | none => exact .inl (.inr ⟨{ cls := .type "list", data := .seq vs.toArray }, by rw [hH]; exact told0_a aT hk⟩)
    | some o =>
      have e := KX a o hk
      rw [ha] at e
      cases e
      exact .inr ⟨_, vs.toArray, _, hk, rfl, rfl, rfl, by rw [List.size_toArray, iv.length]; omega, by simpa using rv⟩
  have env : Env0 l.prog w K mg (hidT s.heap H) callerA [] s H := ⟨rfl, md, fun b o e => of_hidT e, by rw [hidT_size]; exact Nat.le_refl _, trivial, fun b hb => absurd (show b ∈ ([] : List Addr) from hb) List.not_mem_nil, okH, .of_eq gens⟩
  have tH : ∀ p ∈ cs, H p.2 = some (.tbl #[]) := fun p hp => by rw [hH]; exact told0_T (inT p hp)
  refine codeAny_mono ((F _ seeK (seeN _ _ g0) tb).run callerA rfl [] s H ⟨[.ref a], []⟩ [.ref a] [.ref a] (fun v _ => v = .bl true) (fun _ _ _ => False) hr env (bind s (.ref a)) (.cons rfl .nil) (start H a ns hln bits tH sq)) fun r s' h => ?_
  cases r with
  | error e =>
    obtain ⟨_, _, _, _, _, _, _, _, _, _, _, _, z⟩ := h
    exact z.elim
  | ok fl =>
    cases fl with
    | ret u =>
      obtain ⟨v, H', os, bare, un, ok', ru, rfl⟩ := h
      have eu : u = Value.bool true := ru
      subst eu
      have grew : ∀ p ∈ cs, ∃ more : Array Value, s'.heap.get? p.2 = some { cls := .none, data := .fields more } := fun p hp => by
        obtain ⟨more, z⟩ := un.tbls p.2 #[] (tH p hp)
        exact ⟨_, ok' p.2 _ z⟩
      have same : ∀ b o, b ∉ cs.map (·.2) → s.heap.get? b = some o → s'.heap.get? b = some o := by
        intro b o hb e
        cases q : H b with
        | none => exact un.keep b o e q (fun z => absurd (show b ∈ ([] : List Addr) from z) List.not_mem_nil) (fun z => absurd z List.not_mem_nil)
        | some ho =>
          rw [hH] at q
          rcases told0_some q with ⟨z, _⟩ | ⟨rfl, h1, h2, rfl⟩
          · exact absurd z hb
          · have q2 := un.frzs b _ _ (by rw [hH]; exact told0_a h1 h2)
            have q3 := (ok' b _ q2).1
            rw [ha] at e
            cases e
            exact q3
      refine ⟨rfl, ⟨fun b o e => ?_, fun b o e => ?_⟩, os, bare⟩
      · by_cases hb : b ∈ cs.map (·.2)
        · rcases List.mem_map.mp hb with ⟨p, hp, rfl⟩
          obtain ⟨more, hm⟩ := grew p hp
          have e2 := tabs p hp
          rw [e2] at e
          cases e
          exact .inr (.inl ⟨((heads p hp).tab e2).isCodeTable, rfl, #[], more, rfl, by rw [Array.empty_append]; exact hm⟩)
        · exact .inl (same b o hb e)
      · by_cases hb : b ∈ cs.map (·.2)
        · rcases List.mem_map.mp hb with ⟨p, hp, rfl⟩
          obtain ⟨more, hm⟩ := grew p hp
          exact ⟨_, hm⟩
        · exact ⟨o, same b o hb e⟩
    | next => exact False.elim h
    | brk => exact False.elim h
    | cont => exact False.elim h
theorem walkG {n k : Nat} {q : Program} {loose : List Str} {XP : (Str → Option Value) → Heap → Prop} {YP : World → Heap → Prop} {d : DefRec} {x : Str}
    (hn : l.most = some n) (hn2 : n ≤ sizeLine) (hdf : d.params.defaults = []) (hr : Room k callerA)
    (F : ∀ (w : World) (mg : Str → Option Value) (fa : Addr) (h : Heap), YP w h → h.Ns mainGlobals mg → mg d.name = some (.ref fa) → ∃ K : PySem.W.Frag, K.In h ∧ LawG l w K k n x mg fa h) :
    PySem.W.WalkO q loose XP YP l.row.toRowW d [] (fun f vs => PySem.call f vs) := by
  refine Att.attach_callB hn hdf fun w s0 s mg mb fa o pm cd doc a vs ns G Y ho hd hcd hmg hobj hints hlen hbits hg => ?_
  obtain ⟨K, KX, L⟩ := F w mg fa _ Y G.T.g hmg
  exact law_runG L KX hr hn2 G.T.g G.T.b G.T.builtins G.T.nolimit hg G.T.bmain hobj hints hlen hbits
end
end TD
/-! # TD readings: what is common -/
namespace TD
open PySem L2
/-- a comprehension by an invariant -/
theorem dComp_inv {Gd : GH → Prop} {g : DG} {t : DT} {e : DE} {ρ : Rho} {Q : DK} : ∀ {items acc : List D} {G : GH} (I : Nat → List D → GH → Prop) (n : Nat), I n acc G → (∀ i acc G, n ≤ i → i ≤ n + items.length → I i acc G → Gd G) →
    (∀ i d acc G, items[i]? = some d → I (n + i) acc G → ∀ K1 : List D → GH → Prop, (∀ acc' G', I (n + i + 1) acc' G' → K1 acc' G') → g d ρ (fun _ _ _ => False) G fun ρ2 G2 => t ρ2 (fun _ _ _ => False) G2 fun b G3 => if b = true then e ρ2 (fun _ _ _ => False) G3 (fun y G4 => K1 (acc ++ [y]) G4) else K1 acc G3) →
    (∀ acc G, I (n + items.length) acc G → Q (.lst acc) G) → dComp Gd g t e ρ Q items acc G
  | [], acc, G, I, n, h0, hG, hs, hd => ⟨hG n acc G (Nat.le_refl _) (Nat.le_add_right _ _) h0, hd acc G h0⟩
  | d :: r, acc, G, I, n, h0, hG, hs, hd => by
    refine ⟨hG n acc G (Nat.le_refl _) (Nat.le_add_right _ _) h0, hs 0 d acc G rfl h0 (fun acc' G' => dComp Gd g t e ρ Q r acc' G') fun acc' G' h' => ?_⟩
    refine dComp_inv I (n + 1) h' (fun i acc G h1 h2 h3 => hG i acc G (by omega) (by rw [List.length_cons]; omega) h3) (fun i d acc G h1 h2 => ?_) (fun acc G h => hd acc G (by rw [List.length_cons, Nat.add_comm r.length 1, ← Nat.add_assoc]; exact h))
    have := hs (i + 1) d acc G (by simpa using h1) (by rw [Nat.add_comm i 1, ← Nat.add_assoc]; exact h2)
    rw [show n + (i + 1) + 1 = n + 1 + i + 1 by omega] at this
    exact this
/-- a comprehension whose parts change nothing: what each item gives -/
theorem dComp_fm {Gd : GH → Prop} {g : DG} {t : DT} {e : DE} {ρ : Rho} {Q : DK} {G : GH} (f : D → Option D) (hG : Gd G) : ∀ {items acc : List D},
    (∀ d ∈ items, ∀ K1 : Option D → Prop, K1 (f d) → g d ρ (fun _ _ _ => False) G fun ρ2 G2 => t ρ2 (fun _ _ _ => False) G2 fun b G3 => if b = true then e ρ2 (fun _ _ _ => False) G3 (fun y G4 => G4 = G ∧ K1 (some y)) else G3 = G ∧ K1 none) →
    (∀ d ∈ items, ∀ (K1 K2 : Option D → GH → Prop), (∀ o G', K1 o G' → K2 o G') → (g d ρ (fun _ _ _ => False) G fun ρ2 G2 => t ρ2 (fun _ _ _ => False) G2 fun b G3 => if b = true then e ρ2 (fun _ _ _ => False) G3 (fun y G4 => K1 (some y) G4) else K1 none G3) →
      g d ρ (fun _ _ _ => False) G fun ρ2 G2 => t ρ2 (fun _ _ _ => False) G2 fun b G3 => if b = true then e ρ2 (fun _ _ _ => False) G3 (fun y G4 => K2 (some y) G4) else K2 none G3) →
    Q (.lst (acc ++ items.filterMap f)) G → dComp Gd g t e ρ Q items acc G := by
  intro items
  induction items with
  | nil => intro acc _ _ q; exact ⟨hG, by simpa using q⟩
  | cons d r ih =>
    intro acc h hm q
    refine ⟨hG, ?_⟩
    have h1 := h d List.mem_cons_self (fun o => o = f d) rfl
    refine hm d List.mem_cons_self (fun o G' => G' = G ∧ o = f d) (fun o G' => match o with | some y => dComp Gd g t e ρ Q r (acc ++ [y]) G' | none => dComp Gd g t e ρ Q r acc G') (fun o G' ⟨e1, e2⟩ => ?_) h1
    subst e1 e2
    have hr := fun d hd => h d (List.mem_cons_of_mem _ hd)
    have hmr := fun d hd => hm d (List.mem_cons_of_mem _ hd)
    cases e3 : f d with
    | none => exact ih hr hmr (by rw [List.filterMap_cons_none e3] at q; exact q)
    | some y => exact ih hr hmr (by rw [List.filterMap_cons_some e3] at q; rw [List.append_assoc]; exact q)
/-- a comprehension of one value an item -/
theorem dComp_map {Gd : GH → Prop} {g : DG} {e : DE} {ρ : Rho} {Q : DK} {G : GH} (f : D → D) (hG : Gd G) : ∀ {items acc : List D},
    (∀ d ∈ items, ∀ K1 : D → GH → Prop, K1 (f d) G → g d ρ (fun _ _ _ => False) G fun ρ2 G2 => e ρ2 (fun _ _ _ => False) G2 K1) →
    Q (.lst (acc ++ items.map f)) G → dComp Gd g dYes e ρ Q items acc G := by
  intro items
  induction items with
  | nil => intro acc _ q; exact ⟨hG, by simpa using q⟩
  | cons d r ih =>
    intro acc h q
    exact ⟨hG, h d List.mem_cons_self (fun y G4 => dComp Gd g dYes e ρ Q r (acc ++ [y]) G4) (ih (fun d hd => h d (List.mem_cons_of_mem _ hd)) (by rw [List.append_assoc]; exact q))⟩
/-- .. with an if -/
theorem dComp_filter {Gd : GH → Prop} {g : DG} {t : DT} {e : DE} {ρ : Rho} {Q : DK} {G : GH} (p : D → Bool) (f : D → D) (hG : Gd G) : ∀ {items acc : List D},
    (∀ d ∈ items, ∀ K1 : Option D → GH → Prop, K1 (if p d = true then some (f d) else none) G → g d ρ (fun _ _ _ => False) G fun ρ2 G2 => t ρ2 (fun _ _ _ => False) G2 fun b G3 => if b = true then e ρ2 (fun _ _ _ => False) G3 (fun y G4 => K1 (some y) G4) else K1 none G3) →
    Q (.lst (acc ++ (items.filter p).map f)) G → dComp Gd g t e ρ Q items acc G := by
  intro items
  induction items with
  | nil => intro acc _ q; exact ⟨hG, by simpa using q⟩
  | cons d r ih =>
    intro acc h q
    refine ⟨hG, h d List.mem_cons_self (fun o G' => match o with | some y => dComp Gd g t e ρ Q r (acc ++ [y]) G' | none => dComp Gd g t e ρ Q r acc G') ?_⟩
    have hr := fun d hd => h d (List.mem_cons_of_mem _ hd)
    by_cases hp : p d = true
    · rw [if_pos hp]
      rw [List.filter_cons_of_pos hp, List.map_cons] at q
      exact ih hr (by rw [List.append_assoc]; exact q)
    · rw [if_neg hp]
      rw [List.filter_cons_of_neg hp] at q
      exact ih hr q
/-- a loop by an invariant -/
theorem dLoop_inv {Gd : GH → Prop} {g : DG} {b : DS} {E : DEnds} : ∀ {items : List D} {ρ : Rho} {G : GH} (I : Nat → Rho → GH → Prop) (n : Nat), I n ρ G → (∀ i ρ G, n ≤ i → i ≤ n + items.length → I i ρ G → Gd G) →
    (∀ i d ρ G, items[i]? = some d → I (n + i) ρ G → ∀ K1 : Rho → GH → Prop, (∀ ρ' G', I (n + i + 1) ρ' G' → K1 ρ' G') → g d ρ (fun _ _ _ => False) G fun ρ2 G2 => b { E with nx := K1, ct := K1, bk := E.nx } ρ2 G2) →
    (∀ ρ G, I (n + items.length) ρ G → E.nx ρ G) → dLoop Gd g b E items ρ G
  | [], ρ, G, I, n, h0, hG, hs, hd => ⟨hG n ρ G (Nat.le_refl _) (Nat.le_add_right _ _) h0, hd ρ G h0⟩
  | d :: r, ρ, G, I, n, h0, hG, hs, hd => by
    refine ⟨hG n ρ G (Nat.le_refl _) (Nat.le_add_right _ _) h0, hs 0 d ρ G rfl h0 (dLoop Gd g b E r) fun ρ' G' h' => ?_⟩
    refine dLoop_inv I (n + 1) h' (fun i ρ G h1 h2 h3 => hG i ρ G (by omega) (by rw [List.length_cons]; omega) h3) (fun i d ρ G h1 h2 => ?_) (fun ρ G h => hd ρ G (by rw [List.length_cons, Nat.add_comm r.length 1, ← Nat.add_assoc]; exact h))
    have := hs (i + 1) d ρ G (by simpa using h1) (by rw [Nat.add_comm i 1, ← Nat.add_assoc]; exact h2)
    rw [show n + (i + 1) + 1 = n + 1 + i + 1 by omega] at this
    exact this
theorem ex_two {α β : Type} {a : α} {b : β} {P : α → β → Prop} : (∃ z y, (a = z ∧ b = y) ∧ P z y) ↔ P a b := ⟨fun ⟨_, _, ⟨e1, e2⟩, h⟩ => by subst e1 e2; exact h, fun h => ⟨a, b, ⟨rfl, rfl⟩, h⟩⟩
theorem ex_two' {α β : Type} {a : α} {b : β} {P : α → β → Prop} : (∃ z y, a = z ∧ b = y ∧ P z y) ↔ P a b := ⟨fun ⟨_, _, e1, e2, h⟩ => by subst e1 e2; exact h, fun h => ⟨a, b, rfl, rfl, h⟩⟩
theorem zipD_ints : ∀ (a b : List Int), zipD (a.map D.int) (b.map D.int) = (List.zip a b).map fun p => D.tup [.int p.1, .int p.2]
  | [], _ => by unfold zipD; simp
  | _ :: _, [] => by unfold zipD; simp
  | a :: as, b :: bs => by
    have ih := zipD_ints as bs
    unfold zipD at ih ⊢
    rw [List.map_cons, List.map_cons, List.zipWith_cons_cons, List.zip_cons_cons, List.map_cons, ih]
/-! ### readings at known values -/
section
variable {G : GH} {Q : DK} {i j : Int} {a b : PySem.Str} {xs ys : List D} {ns : List Int} {p : Addr} {lo hi : Option Int} {R : List D → (GH → Prop) → Prop}
theorem ad_ii : rdAdd (.int i) (.int j) G Q = Q (.int (i + j)) G := rfl
theorem ad_ss : rdAdd (.str a) (.str b) G Q = (a.length + b.length ≤ sizeLine ∧ Q (.str (a ++ b)) G) := rfl
theorem ad_tt : rdAdd (.tup xs) (.tup ys) G Q = (xs.length + ys.length ≤ sizeLine ∧ Q (.tup (xs ++ ys)) G) := rfl
theorem ad_ll : rdAdd (.lst xs) (.lst ys) G Q = (xs.length + ys.length ≤ sizeLine ∧ Q (.lst (xs ++ ys)) G) := rfl
theorem mu_ii : rdMul (.int i) (.int j) G Q = (CMul i j ∧ Q (.int (i * j)) G) := rfl
theorem mu_li : rdMul (.lst xs) (.int i) G Q = (-(2 ^ 63) ≤ i ∧ i < 2 ^ 63 ∧ xs.length * i.toNat ≤ sizeLine ∧ Q (.lst (List.replicate i.toNat xs).flatten) G) := rfl
theorem mu_ti : rdMul (.tup xs) (.int i) G Q = (xs ≠ [] ∧ 1 ≤ i ∧ i ≤ 1000 ∧ xs.length ≤ 1000 ∧ Q (.tup (List.replicate i.toNat xs).flatten) G) := rfl
theorem ix_t : rdIx (.tup xs) (.int i) G Q = (∃ d, atI xs i = some d ∧ Q d G) := rfl
theorem ix_l : rdIx (.lst xs) (.int i) G Q = (∃ d, atI xs i = some d ∧ Q d G) := rfl
theorem ix_s : rdIx (.scr ns) (.int i) G Q = (∃ d, atI ns i = some d ∧ Q (.int d) G) := rfl
theorem ix_r : rdIx (.ref p) (.int i) G Q = (∃ xs d, G p = some (.lst xs) ∧ atI xs i = some d ∧ Q d G) := rfl
theorem ix_w : rdIx (.str a) (.int i) G Q = (a.length ≤ sizeLine ∧ ∃ c, atI a.cps.toList i = some c ∧ Q (.str ⟨#[c]⟩) G) := rfl
theorem ln_t : rdLen [.tup xs] G Q = Q (.int xs.length) G := rfl
theorem ln_l : rdLen [.lst xs] G Q = Q (.int xs.length) G := rfl
theorem ln_s : rdLen [.scr ns] G Q = Q (.int ns.length) G := rfl
theorem ln_w : rdLen [.str a] G Q = (a.length ≤ sizeLine ∧ Q (.int a.length) G) := rfl
theorem ln_r : rdLen [.ref p] G Q = (∃ xs, G p = some (.lst xs) ∧ Q (.int xs.length) G) := rfl
theorem sr_t : srcD (.tup xs) G R = R xs (fun _ => True) := rfl
theorem sr_l : srcD (.lst xs) G R = R xs (fun _ => True) := rfl
theorem sr_s : srcD (.scr ns) G R = R (ns.map D.int) (fun _ => True) := rfl
theorem sr_r : srcD (.ref p) G R = (∃ xs, G p = some (.lst xs) ∧ R xs (fun G => G p = some (.lst xs))) := rfl
theorem sl_t : rdSl (.tup xs) lo hi G Q = Q (.tup (cutX xs lo hi)) G := rfl
theorem sl_l : rdSl (.lst xs) lo hi G Q = Q (.lst (cutX xs lo hi)) G := rfl
theorem sl_s : rdSl (.scr ns) lo hi G Q = Q (.lst ((cutX ns lo hi).map D.int)) G := rfl
theorem sl_r : rdSl (.ref p) lo hi G Q = (∃ xs, G p = some (.lst xs) ∧ Q (.lst (cutX xs lo hi)) G) := rfl
theorem sl_w : rdSl (.str a) lo hi G Q = (a.length ≤ sizeLine ∧ Q (.str (cutS a lo hi)) G) := rfl
theorem tu_t : rdTuple [.tup xs] G Q = Q (.tup xs) G := rfl
theorem tu_l : rdTuple [.lst xs] G Q = Q (.tup xs) G := rfl
theorem tu_r : rdTuple [.ref p] G Q = (∃ xs, G p = some (.lst xs) ∧ Q (.tup xs) G) := rfl
theorem li_t : rdList [.tup xs] G Q = Q (.lst xs) G := rfl
theorem li_l : rdList [.lst xs] G Q = Q (.lst xs) G := rfl
theorem li_r : rdList [.ref p] G Q = (∃ xs, G p = some (.lst xs) ∧ Q (.lst xs) G) := rfl
theorem lm_t : rdListM [.tup xs] G Q = (∀ p, G p = none → Q (.ref p) (gup G p (.lst xs))) := rfl
theorem lm_l : rdListM [.lst xs] G Q = (∀ p, G p = none → Q (.ref p) (gup G p (.lst xs))) := rfl
theorem mx2 : rdMax2 [.int i, .int j] G Q = Q (.int (if j > i then j else i)) G := rfl
theorem mn2 : rdMin2 [.int i, .int j] G Q = Q (.int (if j < i then j else i)) G := rfl
theorem ab1 : rdAbs [.int i] G Q = Q (.int (if i < 0 then -i else i)) G := rfl
theorem in1 : rdInt1 [.int i] G Q = Q (.int i) G := rfl
theorem is2 {z : D} {c : String} : rdIsi [z, .ty c] G Q = (∃ t, tyD G z = some t ∧ c ∈ tyNames ∧ Q (.bl (isiB t c)) G) := rfl
theorem ap_ {y : D} : rdAppend (.ref p) [y] G Q = ∃ a xs y', (D.ref p) = .ref a ∧ [y] = [y'] ∧ G a = some (.lst xs) ∧ xs.length < sizeLine ∧ Q .non (gup G a (.lst (xs ++ [y']))) := rfl
theorem ty_r {z : D} {T : String} : tyM T (.ref p) G = ((T = "list" ∧ ∃ xs, G p = some (.lst xs)) ∨ (T = "dict" ∧ ((∃ kvs, G p = some (.dK kvs)) ∨ ∃ kvs, G p = some (.dT kvs)))) := rfl
end
theorem at0 {α : Type} {a : α} {r : List α} : atI (a :: r) 0 = some a := atI_nat (j := 0) rfl
theorem at1 {α : Type} {a b : α} {r : List α} : atI (a :: b :: r) 1 = some b := atI_nat (j := 1) rfl
theorem at2 {α : Type} {a b c : α} {r : List α} : atI (a :: b :: c :: r) 2 = some c := atI_nat (j := 2) rfl
theorem dix_ {G : GH} {Q : DK} {p : Addr} {i : Int} {kvs : List (Key × D)} {d : D} (g : G p = some (.dK kvs)) (h : valD kvs (.inl i) = some d) (q : Q d G) : rdDIx (.ref p) (.int i) G Q := ⟨p, .inl i, d, rfl, rfl, ⟨kvs, .inl g, h⟩, q⟩
theorem dixA {G : GH} {Q : DK} {p : Addr} {i : Int} {kvs : List (Key × D)} {d : D} (g : DAt G p kvs) (h : valD kvs (.inl i) = some d) (q : Q d G) : rdDIx (.ref p) (.int i) G Q := ⟨p, .inl i, d, rfl, rfl, ⟨kvs, g, h⟩, q⟩
theorem i30 : ixN 3 0 = some 0 := rfl
theorem i31 : ixN 3 1 = some 1 := rfl
theorem i32 : ixN 3 2 = some 2 := rfl
theorem set0 {α : Type} {a x : α} {r : List α} : (a :: r).set 0 x = x :: r := rfl
theorem set1 {α : Type} {a b x : α} {r : List α} : (a :: b :: r).set 1 x = a :: x :: r := rfl
theorem set2 {α : Type} {a b c x : α} {r : List α} : (a :: b :: c :: r).set 2 x = a :: b :: x :: r := rfl
theorem sz (n : Nat) (h : n ≤ 16777216) : n ≤ sizeLine := by rw [sizeLine_eq]; exact h
end TD
/-! # readings of dicts -/
namespace TD
open PySem L2
theorem valD_put_same {κ : Type} [DecidableEq κ] {kvs : List (κ × D)} {k : κ} {d : D} : valD (putD kvs k d) k = some d := by
  unfold putD
  by_cases h : (kvs.any fun kv => decide (kv.1 = k)) = true
  · rw [if_pos h]
    induction kvs with
    | nil => simp at h
    | cons p r ih =>
      by_cases e : p.1 = k
      · simp [valD, e]
      · have h2 : (r.any fun kv => decide (kv.1 = k)) = true := by simpa [e] using h
        have := ih h2
        simp only [valD, List.map_cons, if_neg e, List.find?_cons, decide_eq_false e] at this ⊢
        exact this
  · rw [if_neg h]
    induction kvs with
    | nil => simp [valD]
    | cons p r ih =>
      have h2 : ¬ (p.1 = k) ∧ ¬ (r.any fun kv => decide (kv.1 = k)) = true := by
        constructor
        · intro e; exact h (by simp [e])
        · intro e; exact h (by simp only [List.any_cons, e, Bool.or_true])
      have := ih h2.2
      simp only [valD, List.cons_append, List.find?_cons, decide_eq_false h2.1] at this ⊢
      exact this
theorem valD_put_ne {κ : Type} [DecidableEq κ] {kvs : List (κ × D)} {k k' : κ} {d : D} (hne : k' ≠ k) : valD (putD kvs k d) k' = valD kvs k' := by
  unfold putD
  split
  · induction kvs with
    | nil => rfl
    | cons p r ih =>
      rw [List.map_cons]
      by_cases e : p.1 = k
      · have e2 : ¬ p.1 = k' := fun z => hne (z.symm.trans e)
        rw [if_pos e]
        simp only [valD, List.find?_cons, decide_eq_false e2]
        by_cases h : (r.any fun kv => decide (kv.1 = k)) = true
        · exact ih h
        · have e3 : r.map (fun kv => if kv.1 = k then (kv.1, d) else kv) = r := by
            refine (List.map_congr_left fun q hq => ?_).trans (List.map_id r)
            rw [if_neg]
            · rfl
            · intro z
              exact h (List.any_eq_true.mpr ⟨q, hq, by simp [z]⟩)
          rw [e3]
      · rw [if_neg e]
        by_cases e2 : p.1 = k'
        · simp [valD, e2]
        · rename_i h
          have h2 : (r.any fun kv => decide (kv.1 = k)) = true := by simpa [e] using h
          have := ih h2
          simp only [valD, List.find?_cons, decide_eq_false e2] at this ⊢
          exact this
  · induction kvs with
    | nil => simp [valD, Ne.symm hne]
    | cons p r ih =>
      rename_i h
      have h2 : ¬ (r.any fun kv => decide (kv.1 = k)) = true := fun e => h (by simp only [List.any_cons, e, Bool.or_true])
      by_cases e2 : p.1 = k'
      · simp [valD, e2]
      · have := ih h2
        simp only [valD, List.cons_append, List.find?_cons, decide_eq_false e2] at this ⊢
        exact this
theorem length_putD {κ : Type} [DecidableEq κ] (kvs : List (κ × D)) (k : κ) (d : D) : (putD kvs k d).length ≤ kvs.length + 1 := by
  unfold putD
  split
  · rw [List.length_map]; omega
  · rw [List.length_append, List.length_singleton]; exact Nat.le_refl _
theorem keys_putD {κ : Type} [DecidableEq κ] (kvs : List (κ × D)) (k : κ) (d : D) : (putD kvs k d).map (·.1) = if k ∈ kvs.map (·.1) then kvs.map (·.1) else kvs.map (·.1) ++ [k] := by
  have e : (kvs.any fun kv => decide (kv.1 = k)) = decide (k ∈ kvs.map (·.1)) := by
    induction kvs with
    | nil => simp
    | cons p r ih =>
      rw [List.any_cons, ih, List.map_cons]
      by_cases h : p.1 = k
      · simp [h]
      · have h' : ¬ k = p.1 := fun z => h z.symm
        simp [h, h']
  unfold putD
  rw [e]
  by_cases h : k ∈ kvs.map (·.1)
  · rw [if_pos (by simpa using h), if_pos h, List.map_map]
    refine List.map_congr_left fun p _ => ?_
    show (if p.1 = k then (p.1, d) else p).1 = p.1
    split <;> rfl
  · rw [if_neg (by simpa using h), if_neg h, List.map_append]
    rfl
theorem nodup_putD {κ : Type} [DecidableEq κ] {kvs : List (κ × D)} {k : κ} {d : D} (h : (kvs.map (·.1)).Nodup) : ((putD kvs k d).map (·.1)).Nodup := by
  rw [keys_putD]
  split
  · exact h
  · rename_i hk
    refine List.nodup_append.mpr ⟨h, by simp, fun a ha b hb => ?_⟩
    rw [List.mem_singleton.mp hb]
    exact fun z => hk (z ▸ ha)
theorem mem_putD {κ : Type} [DecidableEq κ] {kvs : List (κ × D)} {k j : κ} {d : D} : j ∈ (putD kvs k d).map (·.1) ↔ j ∈ kvs.map (·.1) ∨ j = k := by
  rw [keys_putD]
  split
  · rename_i hk
    exact ⟨.inl, fun h => h.elim id fun e => e ▸ hk⟩
  · rw [List.mem_append, List.mem_singleton]
end TD
namespace K00
open PySem L2 TD
structure Ad where
  cBad : Addr
  cNot : Addr
  cTxt : Addr
  t_law_right : Addr
  tlaw : Addr
abbrev Pur (v : D) : Prop := pureN 60 v = true
theorem pureN_tup {n : Nat} {xs : List D} : pureN (n + 1) (.tup xs) = xs.all (pureN n) := rfl
theorem pureN_lst {n : Nat} {xs : List D} : pureN (n + 1) (.lst xs) = xs.all (pureN n) := rfl
theorem pur_tup {xs : List D} (h : Pur (.tup xs)) : ∀ x ∈ xs, Pur x := by
  intro x hx
  have h2 : xs.all (pureN 59) = true := h
  rw [List.all_eq_true] at h2
  exact pureN_mono (by omega : 59 ≤ 60) (h2 x hx)
def tyP : D → String
  | .non => "NoneType"
  | .bl _ => "bool"
  | .int _ => "int"
  | .str _ => "str"
  | .tup _ => "tuple"
  | _ => "list"
theorem tyD_pur {G : GH} {v : D} (h : Pur v) : tyD G v = some (tyP v) := by
  cases v <;> first | rfl | (unfold Pur pureN at h; cases h)
theorem m_int : ("int" ∈ tyNames) = True := by simp [tyNames]
theorem m_bool : ("bool" ∈ tyNames) = True := by simp [tyNames]
theorem m_tuple : ("tuple" ∈ tyNames) = True := by simp [tyNames]
/-! ### values -/
def isIn (v : D) (lo hi : Int) : Bool := match v with
  | .int i => decide (lo ≤ i) && decide (i ≤ hi)
  | _ => false
def sp_is_in (A : Ad) : SpD := fun zs G Q _ => match zs with
  | [v, .int lo, .int hi] => Pur v ∧ Q (.bl (isIn v lo hi)) G
  | _ => False
theorem len_is_in {A : Ad} {zs : List D} {G : GH} {Q : DK} {x : XD} (h : sp_is_in A zs G Q x) : zs.length = 3 := by
  unfold sp_is_in at h
  split at h <;> first | rfl | exact h.elim
def ds_is_in (A : Ad) : DS := dRet (dAndV (dCB rdIsi (dCons (dVar 0) (dCons (dC (.ty "int")) dNil))) (dAndV (dNotV (dCB rdIsi (dCons (dVar 0) (dCons (dC (.ty "bool")) dNil)))) (dChain rdLe rdLe (dVar 1) (dVar 0) (dVar 2))))
def N_is_in : List PySem.Str := ["value", "low", "high"]
theorem read_is_in {A : Ad} {zs : List D} {G : GH} {Q : DK} {x : XD} (h : sp_is_in A zs G Q x) : ds_is_in A { nx := fun _ G' => Q .non G', rt := Q, xx := fun _ => x } (dstart N_is_in zs) G := by
  unfold sp_is_in at h
  split at h
  · rename_i v lo hi
    obtain ⟨hp, q⟩ := h
    unfold N_is_in ds_is_in
    simp only [dRet, dRetN, dSeq, dAsg, dDrop, dIfS, dNext, dBreak, dCont, dPar, dSetL, dSetD, dFor, dVar, dC, dOp, dAndV, dOrV, dNotV, dAnd, dOr, dNot, dIf, dTest, dChain, dNil, dCons, dTup, dLst, dLstM, dStar, dNeg, dCB, dCall, dCallK, dMthT, dMth0, dLc, dYes, dISeq, dIStr, dIEnum, dIZip, dIRng1, dIRng2, dSl, dPart, dNoPart, dRaise, dDisp1, dNewD, dRevL, dRevT, dSortSet, dSortSetL, dIRng3, dGet2, dIKeys, dNewT, dSetT, dLstRg, dPar3, dLcM, dAugL, dSetdT, dDispT, dIItemsT, dIValsT, rdDInP, dFld, dSetF, dMake, dIKeysT, rdIsC, dCntC, dTupC, dSlC, dRevC, dISeqX, dMeth, dMeth0, dSetM, dNewM, lnX_t, lnX_l, srX_t, dLamA, dLamB, gdName, gdTup, gdCons, gdNil, dstart, dwipe, dAug, rdInt, rdSub, rdLt, rdLe, rdGt, rdGe, rdFdiv, rdMod, rdPow, at0, at1, at2, i30, i31, i32, set0, set1, set2, MO.lst.injEq, gup_same, gup_gup, ad_ii, ad_ss, ad_tt, ad_ll, mu_ii, mu_li, mu_ti, ix_t, ix_l, ix_s, ix_r, ix_w, ln_t, ln_l, ln_s, ln_w, ln_r, sr_t, sr_l, sr_s, sr_r, sl_t, sl_l, sl_s, sl_r, sl_w, tu_t, tu_l, tu_r, li_t, li_l, li_r, lm_t, lm_l, mx2, mn2, ab1, in1, is2, rdIsB, rdNotB, rdIsN, rdNotN, TD.isNon, List.map_cons, List.map_nil, List.length_cons, List.length_nil, List.replicate_succ, List.replicate_zero, List.cons_append, List.nil_append, List.append_nil, Nat.zero_add, Nat.reduceAdd, Nat.reduceSub, Nat.sub_self, Nat.add_sub_cancel, List.getElem?_cons_zero, List.getElem?_cons_succ, List.getElem?_nil, List.set_cons_zero, List.set_cons_succ, List.set_nil, Option.some.injEq, D.int.injEq, D.bl.injEq, D.str.injEq, D.ref.injEq, D.ty.injEq, D.tup.injEq, D.lst.injEq, List.cons.injEq, and_true, true_and, ex_two, ex_two', exists_eq_left', exists_eq_left, exists_and_left, exists_and_right, exists_const, exists_eq_right, exists_eq_right', Bool.not_true, Bool.not_false, if_true, if_false, Bool.false_eq_true, reduceCtorEq, false_and, and_false, decide_true, decide_false, tyD_pur hp, m_int, m_bool]
    cases v with
    | int i =>
      simp only [tyP, isiB, isIn] at q ⊢
      by_cases c : lo ≤ i <;> simp [c] at q ⊢ <;> exact q
    | bl b => simpa [tyP, isiB, isIn] using q
    | _ => first | (simpa [tyP, isiB, isIn] using q) | (simp [Pur, pureN] at hp)
  · exact h.elim
def areIn (v : D) (l m lo hi : Int) : Bool := match v with
  | .tup xs => decide (l ≤ xs.length) && decide ((xs.length : Int) ≤ m) && xs.all fun y => isIn y lo hi
  | _ => false
def sp_are_in (A : Ad) : SpD := fun zs G Q _ => match zs with
  | [v, .int l, .int m, .int lo, .int hi] => Pur v ∧ Q (.bl (areIn v l m lo hi)) G
  | _ => False
theorem len_are_in {A : Ad} {zs : List D} {G : GH} {Q : DK} {x : XD} (h : sp_are_in A zs G Q x) : zs.length = 5 := by
  unfold sp_are_in at h
  split at h <;> first | rfl | exact h.elim
def ds_are_in (A : Ad) : DS := dRet (dAndV (dCB rdIsi (dCons (dVar 0) (dCons (dC (.ty "tuple")) dNil))) (dAndV (dChain rdLe rdLe (dVar 1) (dCB rdLen (dCons (dVar 0) dNil)) (dVar 2)) (dCB rdAll (dCons (dLc (dISeq (dVar 0)) (gdName 5) dYes (dCall (sp_is_in A) (dCons (dVar 5) (dCons (dVar 3) (dCons (dVar 4) dNil)))) [5]) dNil))))
def N_are_in : List PySem.Str := ["value", "least", "most", "low", "high", "part"]
theorem dBls_of_map {α : Type} (f : α → Bool) (l : List α) : dBls (l.map fun a => D.bl (f a)) = some (l.map f) := by
  have := dBls_map (l.map f)
  rw [List.map_map] at this
  exact this
theorem all_map_id {α : Type} (f : α → Bool) (l : List α) : (l.map f).all id = l.all f := by
  rw [List.all_map]; rfl
theorem read_are_in {A : Ad} {zs : List D} {G : GH} {Q : DK} {x : XD} (h : sp_are_in A zs G Q x) : ds_are_in A { nx := fun _ G' => Q .non G', rt := Q, xx := fun _ => x } (dstart N_are_in zs) G := by
  unfold sp_are_in at h
  split at h
  · rename_i v l m lo hi
    obtain ⟨hp, q⟩ := h
    unfold N_are_in ds_are_in
    simp only [dRet, dRetN, dSeq, dAsg, dDrop, dIfS, dNext, dBreak, dCont, dPar, dSetL, dSetD, dFor, dVar, dC, dOp, dAndV, dOrV, dNotV, dAnd, dOr, dNot, dIf, dTest, dChain, dNil, dCons, dTup, dLst, dLstM, dStar, dNeg, dCB, dCall, dCallK, dMthT, dMth0, dLc, dYes, dISeq, dIStr, dIEnum, dIZip, dIRng1, dIRng2, dSl, dPart, dNoPart, dRaise, dDisp1, dNewD, dRevL, dRevT, dSortSet, dSortSetL, dIRng3, dGet2, dIKeys, dNewT, dSetT, dLstRg, dPar3, dLcM, dAugL, dSetdT, dDispT, dIItemsT, dIValsT, rdDInP, dFld, dSetF, dMake, dIKeysT, rdIsC, dCntC, dTupC, dSlC, dRevC, dISeqX, dMeth, dMeth0, dSetM, dNewM, lnX_t, lnX_l, srX_t, dLamA, dLamB, gdName, gdTup, gdCons, gdNil, dstart, dwipe, dAug, rdInt, rdSub, rdLt, rdLe, rdGt, rdGe, rdFdiv, rdMod, rdPow, at0, at1, at2, i30, i31, i32, set0, set1, set2, MO.lst.injEq, gup_same, gup_gup, ad_ii, ad_ss, ad_tt, ad_ll, mu_ii, mu_li, mu_ti, ix_t, ix_l, ix_s, ix_r, ix_w, ln_t, ln_l, ln_s, ln_w, ln_r, sr_t, sr_l, sr_s, sr_r, sl_t, sl_l, sl_s, sl_r, sl_w, tu_t, tu_l, tu_r, li_t, li_l, li_r, lm_t, lm_l, mx2, mn2, ab1, in1, is2, rdIsB, rdNotB, rdIsN, rdNotN, TD.isNon, List.map_cons, List.map_nil, List.length_cons, List.length_nil, List.replicate_succ, List.replicate_zero, List.cons_append, List.nil_append, List.append_nil, Nat.zero_add, Nat.reduceAdd, Nat.reduceSub, Nat.sub_self, Nat.add_sub_cancel, List.getElem?_cons_zero, List.getElem?_cons_succ, List.getElem?_nil, List.set_cons_zero, List.set_cons_succ, List.set_nil, Option.some.injEq, D.int.injEq, D.bl.injEq, D.str.injEq, D.ref.injEq, D.ty.injEq, D.tup.injEq, D.lst.injEq, List.cons.injEq, and_true, true_and, ex_two, ex_two', exists_eq_left', exists_eq_left, exists_and_left, exists_and_right, exists_const, exists_eq_right, exists_eq_right', Bool.not_true, Bool.not_false, if_true, if_false, Bool.false_eq_true, reduceCtorEq, false_and, and_false, decide_true, decide_false, tyD_pur hp, m_tuple]
    cases v with
    | tup xs =>
      simp only [tyP, isiB, areIn, dRet, dRetN, dSeq, dAsg, dDrop, dIfS, dNext, dBreak, dCont, dPar, dSetL, dSetD, dFor, dVar, dC, dOp, dAndV, dOrV, dNotV, dAnd, dOr, dNot, dIf, dTest, dChain, dNil, dCons, dTup, dLst, dLstM, dStar, dNeg, dCB, dCall, dCallK, dMthT, dMth0, dLc, dYes, dISeq, dIStr, dIEnum, dIZip, dIRng1, dIRng2, dSl, dPart, dNoPart, dRaise, dDisp1, dNewD, dRevL, dRevT, dSortSet, dSortSetL, dIRng3, dGet2, dIKeys, dNewT, dSetT, dLstRg, dPar3, dLcM, dAugL, dSetdT, dDispT, dIItemsT, dIValsT, rdDInP, dFld, dSetF, dMake, dIKeysT, rdIsC, dCntC, dTupC, dSlC, dRevC, dISeqX, dMeth, dMeth0, dSetM, dNewM, lnX_t, lnX_l, srX_t, dLamA, dLamB, gdName, gdTup, gdCons, gdNil, dstart, dwipe, dAug, rdInt, rdSub, rdLt, rdLe, rdGt, rdGe, rdFdiv, rdMod, rdPow, at0, at1, at2, i30, i31, i32, set0, set1, set2, MO.lst.injEq, gup_same, gup_gup, ad_ii, ad_ss, ad_tt, ad_ll, mu_ii, mu_li, mu_ti, ix_t, ix_l, ix_s, ix_r, ix_w, ln_t, ln_l, ln_s, ln_w, ln_r, sr_t, sr_l, sr_s, sr_r, sl_t, sl_l, sl_s, sl_r, sl_w, tu_t, tu_l, tu_r, li_t, li_l, li_r, lm_t, lm_l, mx2, mn2, ab1, in1, is2, rdIsB, rdNotB, rdIsN, rdNotN, TD.isNon, List.map_cons, List.map_nil, List.length_cons, List.length_nil, List.replicate_succ, List.replicate_zero, List.cons_append, List.nil_append, List.append_nil, Nat.zero_add, Nat.reduceAdd, Nat.reduceSub, Nat.sub_self, Nat.add_sub_cancel, List.getElem?_cons_zero, List.getElem?_cons_succ, List.getElem?_nil, List.set_cons_zero, List.set_cons_succ, List.set_nil, Option.some.injEq, D.int.injEq, D.bl.injEq, D.str.injEq, D.ref.injEq, D.ty.injEq, D.tup.injEq, D.lst.injEq, List.cons.injEq, and_true, true_and, ex_two, ex_two', exists_eq_left', exists_eq_left, exists_and_left, exists_and_right, exists_const, exists_eq_right, exists_eq_right', Bool.not_true, Bool.not_false, if_true, if_false, Bool.false_eq_true, reduceCtorEq, false_and, and_false, decide_true, decide_false] at q ⊢
      by_cases c : l ≤ (xs.length : Int)
      · by_cases c2 : (xs.length : Int) ≤ m
        · simp [c, c2] at q ⊢
          refine dComp_map (fun d => D.bl (isIn d lo hi)) trivial (fun d hd K1 k => ?_) ?_
          · simp only [dRet, dRetN, dSeq, dAsg, dDrop, dIfS, dNext, dBreak, dCont, dPar, dSetL, dSetD, dFor, dVar, dC, dOp, dAndV, dOrV, dNotV, dAnd, dOr, dNot, dIf, dTest, dChain, dNil, dCons, dTup, dLst, dLstM, dStar, dNeg, dCB, dCall, dCallK, dMthT, dMth0, dLc, dYes, dISeq, dIStr, dIEnum, dIZip, dIRng1, dIRng2, dSl, dPart, dNoPart, dRaise, dDisp1, dNewD, dRevL, dRevT, dSortSet, dSortSetL, dIRng3, dGet2, dIKeys, dNewT, dSetT, dLstRg, dPar3, dLcM, dAugL, dSetdT, dDispT, dIItemsT, dIValsT, rdDInP, dFld, dSetF, dMake, dIKeysT, rdIsC, dCntC, dTupC, dSlC, dRevC, dISeqX, dMeth, dMeth0, dSetM, dNewM, lnX_t, lnX_l, srX_t, dLamA, dLamB, gdName, gdTup, gdCons, gdNil, dstart, dwipe, dAug, rdInt, rdSub, rdLt, rdLe, rdGt, rdGe, rdFdiv, rdMod, rdPow, at0, at1, at2, i30, i31, i32, set0, set1, set2, MO.lst.injEq, gup_same, gup_gup, ad_ii, ad_ss, ad_tt, ad_ll, mu_ii, mu_li, mu_ti, ix_t, ix_l, ix_s, ix_r, ix_w, ln_t, ln_l, ln_s, ln_w, ln_r, sr_t, sr_l, sr_s, sr_r, sl_t, sl_l, sl_s, sl_r, sl_w, tu_t, tu_l, tu_r, li_t, li_l, li_r, lm_t, lm_l, mx2, mn2, ab1, in1, is2, rdIsB, rdNotB, rdIsN, rdNotN, TD.isNon, List.map_cons, List.map_nil, List.length_cons, List.length_nil, List.replicate_succ, List.replicate_zero, List.cons_append, List.nil_append, List.append_nil, Nat.zero_add, Nat.reduceAdd, Nat.reduceSub, Nat.sub_self, Nat.add_sub_cancel, List.getElem?_cons_zero, List.getElem?_cons_succ, List.getElem?_nil, List.set_cons_zero, List.set_cons_succ, List.set_nil, Option.some.injEq, D.int.injEq, D.bl.injEq, D.str.injEq, D.ref.injEq, D.ty.injEq, D.tup.injEq, D.lst.injEq, List.cons.injEq, and_true, true_and, ex_two, ex_two', exists_eq_left', exists_eq_left, exists_and_left, exists_and_right, exists_const, exists_eq_right, exists_eq_right', Bool.not_true, Bool.not_false, if_true, if_false, Bool.false_eq_true, reduceCtorEq, false_and, and_false, decide_true, decide_false, sp_is_in]
            exact ⟨pur_tup hp d hd, k⟩
          · refine ⟨_, _, rfl, by rw [List.nil_append]; exact dBls_of_map _ _, ?_⟩
            rw [all_map_id]; exact q
        · simp [c, c2] at q ⊢; exact q
      · simp [c] at q ⊢; exact q
    | _ => first | (simpa [tyP, isiB, areIn] using q) | (simp [Pur, pureN] at hp)
  · exact h.elim

def intsD (ns : List Int) : D := .tup (ns.map .int)

def sp_demand (A : Ad) : SpD := fun zs G Q x => match zs with
  | [.bl b, .str s] => if b = true then Q .non G else x A.cBad [("name", .str s)] G
  | _ => False
theorem len_demand {A : Ad} {zs : List D} {G : GH} {Q : DK} {x : XD} (h : sp_demand A zs G Q x) : zs.length = 2 := by
  unfold sp_demand at h
  split at h <;> first | rfl | exact h.elim
def ds_demand (A : Ad) : DS := dIfS (dNot (dTest (dVar 0))) (dRaise A.cBad (ErrX.EF.fld .name) (dVar 1)) dNext
def N_demand : List PySem.Str := ["is_good", "name"]
theorem read_demand {A : Ad} {zs : List D} {G : GH} {Q : DK} {x : XD} (h : sp_demand A zs G Q x) : ds_demand A { nx := fun _ G' => Q .non G', rt := Q, xx := fun _ => x } (dstart N_demand zs) G := by
  unfold sp_demand at h
  split at h
  · rename_i b s
    unfold N_demand ds_demand
    simp only [dRet, dRetN, dSeq, dAsg, dDrop, dIfS, dNext, dBreak, dCont, dPar, dSetL, dSetD, dFor, dVar, dC, dOp, dAndV, dOrV, dNotV, dAnd, dOr, dNot, dIf, dTest, dChain, dNil, dCons, dTup, dLst, dLstM, dStar, dNeg, dCB, dCall, dCallK, dMthT, dMth0, dLc, dYes, dISeq, dIStr, dIEnum, dIZip, dIRng1, dIRng2, dSl, dPart, dNoPart, dRaise, dDisp1, dNewD, dRevL, dRevT, dSortSet, dSortSetL, dIRng3, dGet2, dIKeys, dNewT, dSetT, dLstRg, dPar3, dLcM, dAugL, dSetdT, dDispT, dIItemsT, dIValsT, rdDInP, dFld, dSetF, dMake, dIKeysT, rdIsC, dCntC, dTupC, dSlC, dRevC, dISeqX, dMeth, dMeth0, dSetM, dNewM, lnX_t, lnX_l, srX_t, dLamA, dLamB, gdName, gdTup, gdCons, gdNil, dstart, dwipe, dAug, rdInt, rdSub, rdLt, rdLe, rdGt, rdGe, rdFdiv, rdMod, rdPow, at0, at1, at2, i30, i31, i32, set0, set1, set2, MO.lst.injEq, gup_same, gup_gup, ad_ii, ad_ss, ad_tt, ad_ll, mu_ii, mu_li, mu_ti, ix_t, ix_l, ix_s, ix_r, ix_w, ln_t, ln_l, ln_s, ln_w, ln_r, sr_t, sr_l, sr_s, sr_r, sl_t, sl_l, sl_s, sl_r, sl_w, tu_t, tu_l, tu_r, li_t, li_l, li_r, lm_t, lm_l, mx2, mn2, ab1, in1, is2, rdIsB, rdNotB, rdIsN, rdNotN, TD.isNon, List.map_cons, List.map_nil, List.length_cons, List.length_nil, List.replicate_succ, List.replicate_zero, List.cons_append, List.nil_append, List.append_nil, Nat.zero_add, Nat.reduceAdd, Nat.reduceSub, Nat.sub_self, Nat.add_sub_cancel, List.getElem?_cons_zero, List.getElem?_cons_succ, List.getElem?_nil, List.set_cons_zero, List.set_cons_succ, List.set_nil, Option.some.injEq, D.int.injEq, D.bl.injEq, D.str.injEq, D.ref.injEq, D.ty.injEq, D.tup.injEq, D.lst.injEq, List.cons.injEq, and_true, true_and, ex_two, ex_two', exists_eq_left', exists_eq_left, exists_and_left, exists_and_right, exists_const, exists_eq_right, exists_eq_right', Bool.not_true, Bool.not_false, if_true, if_false, Bool.false_eq_true, reduceCtorEq, false_and, and_false, decide_true, decide_false]
    cases b <;> simpa [ErrX.EF.fld] using h
  · exact h.elim
/-! ### tables -/
def isTabL (n : Nat) : Nat → List D → List Bool
  | _, [] => []
  | i, r :: rs => areIn r ((n : Int) - (i : Int)) ((n : Int) - (i : Int)) 0 1000 :: isTabL n (i + 1) rs
def isTab (v : D) : Bool := match v with
  | .tup rows => decide (1 ≤ rows.length) && decide (rows.length ≤ 7) && (isTabL rows.length 0 rows).all id
  | _ => false
def sp_is_table (A : Ad) : SpD := fun zs G Q _ => match zs with
  | [v] => Pur v ∧ Q (.bl (isTab v)) G
  | _ => False
theorem len_is_table {A : Ad} {zs : List D} {G : GH} {Q : DK} {x : XD} (h : sp_is_table A zs G Q x) : zs.length = 1 := by
  unfold sp_is_table at h
  split at h <;> first | rfl | exact h.elim
def ds_is_table (A : Ad) : DS := dSeq (dIfS (dOr (dNot (dTest (dCB rdIsi (dCons (dVar 0) (dCons (dC (.ty "tuple")) dNil))))) (dNot (dTest (dChain rdLe rdLe (dC (.int 1)) (dCB rdLen (dCons (dVar 0) dNil)) (dOp rdSub (dC (.int 8)) (dC (.int 1))))))) (dRet (dC (.bl false))) dNext) (dRet (dCB rdAll (dCons (dLc (dIEnum (dCons (dVar 0) dNil)) (gdTup (gdCons (gdName 1) (gdCons (gdName 2) gdNil)) 2) dYes (dCall (sp_are_in A) (dCons (dVar 2) (dCons (dOp rdSub (dCB rdLen (dCons (dVar 0) dNil)) (dVar 1)) (dCons (dOp rdSub (dCB rdLen (dCons (dVar 0) dNil)) (dVar 1)) (dCons (dC (.int 0)) (dCons (dC (.int 1000)) dNil)))))) [1, 2]) dNil)))
def N_is_table : List PySem.Str := ["value", "at", "row"]
theorem enum_tab (n : Nat) : ∀ (rows : List D) (i : Nat), dBls ((dEnum i rows).map fun d => match d with | .tup [.int a, r] => D.bl (areIn r ((n : Int) - a) ((n : Int) - a) 0 1000) | _ => .non) = some (isTabL n i rows)
  | [], _ => rfl
  | r :: rs, i => by
    have ih := enum_tab n rs (i + 1)
    rw [dEnum, List.map_cons, isTabL]
    unfold dBls
    rw [ih] <;> rfl
theorem mem_enum : ∀ (rows : List D) (i : Nat) (d : D), d ∈ dEnum i rows → ∃ (a : Nat) (r : D), d = .tup [.int (a : Int), r] ∧ r ∈ rows
  | [], _, _, h => by cases h
  | r :: rs, i, d, h => by
    rw [dEnum] at h
    rcases List.mem_cons.mp h with rfl | h
    · exact ⟨i, r, rfl, List.mem_cons_self⟩
    · obtain ⟨a, r', e, hm⟩ := mem_enum rs (i + 1) d h
      exact ⟨a, r', e, List.mem_cons_of_mem _ hm⟩
theorem read_is_table {A : Ad} {zs : List D} {G : GH} {Q : DK} {x : XD} (h : sp_is_table A zs G Q x) : ds_is_table A { nx := fun _ G' => Q .non G', rt := Q, xx := fun _ => x } (dstart N_is_table zs) G := by
  unfold sp_is_table at h
  split at h
  · rename_i v
    obtain ⟨hp, q⟩ := h
    unfold N_is_table ds_is_table
    simp only [dRet, dRetN, dSeq, dAsg, dDrop, dIfS, dNext, dBreak, dCont, dPar, dSetL, dSetD, dFor, dVar, dC, dOp, dAndV, dOrV, dNotV, dAnd, dOr, dNot, dIf, dTest, dChain, dNil, dCons, dTup, dLst, dLstM, dStar, dNeg, dCB, dCall, dCallK, dMthT, dMth0, dLc, dYes, dISeq, dIStr, dIEnum, dIZip, dIRng1, dIRng2, dSl, dPart, dNoPart, dRaise, dDisp1, dNewD, dRevL, dRevT, dSortSet, dSortSetL, dIRng3, dGet2, dIKeys, dNewT, dSetT, dLstRg, dPar3, dLcM, dAugL, dSetdT, dDispT, dIItemsT, dIValsT, rdDInP, dFld, dSetF, dMake, dIKeysT, rdIsC, dCntC, dTupC, dSlC, dRevC, dISeqX, dMeth, dMeth0, dSetM, dNewM, lnX_t, lnX_l, srX_t, dLamA, dLamB, gdName, gdTup, gdCons, gdNil, dstart, dwipe, dAug, rdInt, rdSub, rdLt, rdLe, rdGt, rdGe, rdFdiv, rdMod, rdPow, at0, at1, at2, i30, i31, i32, set0, set1, set2, MO.lst.injEq, gup_same, gup_gup, ad_ii, ad_ss, ad_tt, ad_ll, mu_ii, mu_li, mu_ti, ix_t, ix_l, ix_s, ix_r, ix_w, ln_t, ln_l, ln_s, ln_w, ln_r, sr_t, sr_l, sr_s, sr_r, sl_t, sl_l, sl_s, sl_r, sl_w, tu_t, tu_l, tu_r, li_t, li_l, li_r, lm_t, lm_l, mx2, mn2, ab1, in1, is2, rdIsB, rdNotB, rdIsN, rdNotN, TD.isNon, List.map_cons, List.map_nil, List.length_cons, List.length_nil, List.replicate_succ, List.replicate_zero, List.cons_append, List.nil_append, List.append_nil, Nat.zero_add, Nat.reduceAdd, Nat.reduceSub, Nat.sub_self, Nat.add_sub_cancel, List.getElem?_cons_zero, List.getElem?_cons_succ, List.getElem?_nil, List.set_cons_zero, List.set_cons_succ, List.set_nil, Option.some.injEq, D.int.injEq, D.bl.injEq, D.str.injEq, D.ref.injEq, D.ty.injEq, D.tup.injEq, D.lst.injEq, List.cons.injEq, and_true, true_and, ex_two, ex_two', exists_eq_left', exists_eq_left, exists_and_left, exists_and_right, exists_const, exists_eq_right, exists_eq_right', Bool.not_true, Bool.not_false, if_true, if_false, Bool.false_eq_true, reduceCtorEq, false_and, and_false, decide_true, decide_false, tyD_pur hp, m_tuple]
    cases v with
    | tup rows =>
      simp only [tyP, isiB, isTab, dRet, dRetN, dSeq, dAsg, dDrop, dIfS, dNext, dBreak, dCont, dPar, dSetL, dSetD, dFor, dVar, dC, dOp, dAndV, dOrV, dNotV, dAnd, dOr, dNot, dIf, dTest, dChain, dNil, dCons, dTup, dLst, dLstM, dStar, dNeg, dCB, dCall, dCallK, dMthT, dMth0, dLc, dYes, dISeq, dIStr, dIEnum, dIZip, dIRng1, dIRng2, dSl, dPart, dNoPart, dRaise, dDisp1, dNewD, dRevL, dRevT, dSortSet, dSortSetL, dIRng3, dGet2, dIKeys, dNewT, dSetT, dLstRg, dPar3, dLcM, dAugL, dSetdT, dDispT, dIItemsT, dIValsT, rdDInP, dFld, dSetF, dMake, dIKeysT, rdIsC, dCntC, dTupC, dSlC, dRevC, dISeqX, dMeth, dMeth0, dSetM, dNewM, lnX_t, lnX_l, srX_t, dLamA, dLamB, gdName, gdTup, gdCons, gdNil, dstart, dwipe, dAug, rdInt, rdSub, rdLt, rdLe, rdGt, rdGe, rdFdiv, rdMod, rdPow, at0, at1, at2, i30, i31, i32, set0, set1, set2, MO.lst.injEq, gup_same, gup_gup, ad_ii, ad_ss, ad_tt, ad_ll, mu_ii, mu_li, mu_ti, ix_t, ix_l, ix_s, ix_r, ix_w, ln_t, ln_l, ln_s, ln_w, ln_r, sr_t, sr_l, sr_s, sr_r, sl_t, sl_l, sl_s, sl_r, sl_w, tu_t, tu_l, tu_r, li_t, li_l, li_r, lm_t, lm_l, mx2, mn2, ab1, in1, is2, rdIsB, rdNotB, rdIsN, rdNotN, TD.isNon, List.map_cons, List.map_nil, List.length_cons, List.length_nil, List.replicate_succ, List.replicate_zero, List.cons_append, List.nil_append, List.append_nil, Nat.zero_add, Nat.reduceAdd, Nat.reduceSub, Nat.sub_self, Nat.add_sub_cancel, List.getElem?_cons_zero, List.getElem?_cons_succ, List.getElem?_nil, List.set_cons_zero, List.set_cons_succ, List.set_nil, Option.some.injEq, D.int.injEq, D.bl.injEq, D.str.injEq, D.ref.injEq, D.ty.injEq, D.tup.injEq, D.lst.injEq, List.cons.injEq, and_true, true_and, ex_two, ex_two', exists_eq_left', exists_eq_left, exists_and_left, exists_and_right, exists_const, exists_eq_right, exists_eq_right', Bool.not_true, Bool.not_false, if_true, if_false, Bool.false_eq_true, reduceCtorEq, false_and, and_false, decide_true, decide_false] at q ⊢
      have go : (1 ≤ rows.length ∧ rows.length ≤ 7) → dComp (fun _ => True) (gdTup (gdCons (gdName 1) (gdCons (gdName 2) gdNil)) 2) dYes
          (dCall (sp_are_in A) (dCons (dVar 2) (dCons (dOp rdSub (dCB rdLen (dCons (dVar 0) dNil)) (dVar 1)) (dCons (dOp rdSub (dCB rdLen (dCons (dVar 0) dNil)) (dVar 1)) (dCons (dC (.int 0)) (dCons (dC (.int 1000)) dNil))))))
          [some (.tup rows), none, none] (fun z G' => rdAll [z] G' Q) (dEnum 0 rows) [] G := fun hn => by
        refine dComp_map (fun d => match d with | .tup [.int a, r] => D.bl (areIn r ((rows.length : Int) - a) ((rows.length : Int) - a) 0 1000) | _ => .non) trivial (fun d hd K1 k => ?_) ?_
        · obtain ⟨a, r, rfl, hr⟩ := mem_enum rows 0 d hd
          simp only [dRet, dRetN, dSeq, dAsg, dDrop, dIfS, dNext, dBreak, dCont, dPar, dSetL, dSetD, dFor, dVar, dC, dOp, dAndV, dOrV, dNotV, dAnd, dOr, dNot, dIf, dTest, dChain, dNil, dCons, dTup, dLst, dLstM, dStar, dNeg, dCB, dCall, dCallK, dMthT, dMth0, dLc, dYes, dISeq, dIStr, dIEnum, dIZip, dIRng1, dIRng2, dSl, dPart, dNoPart, dRaise, dDisp1, dNewD, dRevL, dRevT, dSortSet, dSortSetL, dIRng3, dGet2, dIKeys, dNewT, dSetT, dLstRg, dPar3, dLcM, dAugL, dSetdT, dDispT, dIItemsT, dIValsT, rdDInP, dFld, dSetF, dMake, dIKeysT, rdIsC, dCntC, dTupC, dSlC, dRevC, dISeqX, dMeth, dMeth0, dSetM, dNewM, lnX_t, lnX_l, srX_t, dLamA, dLamB, gdName, gdTup, gdCons, gdNil, dstart, dwipe, dAug, rdInt, rdSub, rdLt, rdLe, rdGt, rdGe, rdFdiv, rdMod, rdPow, at0, at1, at2, i30, i31, i32, set0, set1, set2, MO.lst.injEq, gup_same, gup_gup, ad_ii, ad_ss, ad_tt, ad_ll, mu_ii, mu_li, mu_ti, ix_t, ix_l, ix_s, ix_r, ix_w, ln_t, ln_l, ln_s, ln_w, ln_r, sr_t, sr_l, sr_s, sr_r, sl_t, sl_l, sl_s, sl_r, sl_w, tu_t, tu_l, tu_r, li_t, li_l, li_r, lm_t, lm_l, mx2, mn2, ab1, in1, is2, rdIsB, rdNotB, rdIsN, rdNotN, TD.isNon, List.map_cons, List.map_nil, List.length_cons, List.length_nil, List.replicate_succ, List.replicate_zero, List.cons_append, List.nil_append, List.append_nil, Nat.zero_add, Nat.reduceAdd, Nat.reduceSub, Nat.sub_self, Nat.add_sub_cancel, List.getElem?_cons_zero, List.getElem?_cons_succ, List.getElem?_nil, List.set_cons_zero, List.set_cons_succ, List.set_nil, Option.some.injEq, D.int.injEq, D.bl.injEq, D.str.injEq, D.ref.injEq, D.ty.injEq, D.tup.injEq, D.lst.injEq, List.cons.injEq, and_true, true_and, ex_two, ex_two', exists_eq_left', exists_eq_left, exists_and_left, exists_and_right, exists_const, exists_eq_right, exists_eq_right', Bool.not_true, Bool.not_false, if_true, if_false, Bool.false_eq_true, reduceCtorEq, false_and, and_false, decide_true, decide_false, sp_are_in]
          exact ⟨pur_tup hp r hr, k⟩
        · refine ⟨_, _, rfl, by rw [List.nil_append]; exact enum_tab _ _ _, ?_⟩
          simpa [hn.1, hn.2] using q
      by_cases c1 : 1 ≤ rows.length
      · by_cases c2 : rows.length ≤ 7
        · have e1 : (1 : Int) ≤ (rows.length : Int) := by omega
          have e2 : ¬ (7 : Int) < (rows.length : Int) := by omega
          simp [e1, e2]
          exact go ⟨c1, c2⟩
        · have e1 : (1 : Int) ≤ (rows.length : Int) := by omega
          have e2 : (7 : Int) < (rows.length : Int) := by omega
          simp [e1, e2]
          simpa [c1, c2] using q
      · have e1 : ¬ (1 : Int) ≤ (rows.length : Int) := by omega
        simp [e1]
        simpa [c1] using q
    | _ => first | (simpa [tyP, isiB, isTab] using q) | (simp [Pur, pureN] at hp)
  · exact h.elim

abbrev Tab := List (List Int)
def tabD (t : Tab) : D := .tup (t.map intsD)
structure WT (t : Tab) : Prop where
  n1 : 1 ≤ t.length
  n7 : t.length ≤ 7
  row : ∀ (i : Nat) (r : List Int), t[i]? = some r → r.length = t.length - i
  bnd : ∀ r ∈ t, ∀ x ∈ r, 0 ≤ x ∧ x ≤ 1000

theorem allInts_of : ∀ {xs : List D}, (∀ x ∈ xs, ∃ i : Int, x = .int i) → ∃ ns : List Int, xs = ns.map D.int
  | [], _ => ⟨[], rfl⟩
  | x :: xs, h => by
    obtain ⟨i, rfl⟩ := h x List.mem_cons_self
    obtain ⟨ns, rfl⟩ := allInts_of fun y hy => h y (List.mem_cons_of_mem _ hy)
    exact ⟨i :: ns, rfl⟩
theorem isIn_ok {v : D} {lo hi : Int} (h : isIn v lo hi = true) : ∃ i : Int, v = .int i ∧ lo ≤ i ∧ i ≤ hi := by
  cases v <;> simp [isIn] at h
  exact ⟨_, rfl, h.1, h.2⟩
theorem areIn_ok {v : D} {l m lo hi : Int} (h : areIn v l m lo hi = true) : ∃ ns : List Int, v = intsD ns ∧ l ≤ ns.length ∧ (ns.length : Int) ≤ m ∧ ∀ x ∈ ns, lo ≤ x ∧ x ≤ hi := by
  cases v with
  | tup xs =>
    simp only [areIn, Bool.and_eq_true, decide_eq_true_eq, List.all_eq_true] at h
    obtain ⟨⟨h1, h2⟩, h3⟩ := h
    obtain ⟨ns, rfl⟩ := allInts_of fun x hx => (isIn_ok (h3 x hx)).imp fun i q => q.1
    rw [List.length_map] at h1 h2
    refine ⟨ns, rfl, h1, h2, fun x hx => ?_⟩
    obtain ⟨i, e, q⟩ := isIn_ok (h3 (.int x) (List.mem_map_of_mem hx))
    cases e
    exact q
  | _ => simp [areIn] at h
theorem areIn_ints {ns : List Int} {l m lo hi : Int} : areIn (intsD ns) l m lo hi = (decide (l ≤ ns.length) && decide ((ns.length : Int) ≤ m) && ns.all fun x => decide (lo ≤ x) && decide (x ≤ hi)) := by
  simp only [areIn, intsD, List.length_map, List.all_map]
  rfl
theorem isTabL_all (n : Nat) : ∀ (rows : List D) (i : Nat), (isTabL n i rows).all id = true ↔ ∀ (j : Nat) (r : D), rows[j]? = some r → areIn r ((n : Int) - ((i + j : Nat) : Int)) ((n : Int) - ((i + j : Nat) : Int)) 0 1000 = true
  | [], i => by simp [isTabL]
  | r :: rs, i => by
    rw [isTabL, List.all_cons, Bool.and_eq_true, isTabL_all n rs (i + 1)]
    constructor
    · rintro ⟨h1, h2⟩ j r' hj
      cases j with
      | zero => simp at hj; subst hj; simpa using h1
      | succ j =>
        have := h2 j r' (by simpa using hj)
        rw [show i + (j + 1) = i + 1 + j by omega]
        exact this
    · intro h
      refine ⟨by simpa using h 0 r rfl, fun j r' hj => ?_⟩
      have := h (j + 1) r' (by simpa using hj)
      rw [show i + (j + 1) = i + 1 + j by omega] at this
      exact this
theorem rows_of : ∀ {rows : List D}, (∀ r ∈ rows, ∃ ns : List Int, r = intsD ns) → ∃ t : Tab, rows = t.map intsD
  | [], _ => ⟨[], rfl⟩
  | r :: rs, h => by
    obtain ⟨ns, rfl⟩ := h r List.mem_cons_self
    obtain ⟨t, rfl⟩ := rows_of fun y hy => h y (List.mem_cons_of_mem _ hy)
    exact ⟨ns :: t, rfl⟩
theorem map_int_inj {a b : List Int} (h : a.map D.int = b.map D.int) : a = b := by
  induction a generalizing b with
  | nil => cases b with
    | nil => rfl
    | cons => cases h
  | cons x xs ih => cases b with
    | nil => cases h
    | cons y ys =>
      injection h with h1 h2
      cases h1
      rw [ih h2]
theorem intsD_inj {a b : List Int} (h : intsD a = intsD b) : a = b := by
  injection h with h
  exact map_int_inj h
theorem isTab_ok {v : D} (h : isTab v = true) : ∃ t, v = tabD t ∧ WT t := by
  cases v with
  | tup rows =>
    simp only [isTab, Bool.and_eq_true, decide_eq_true_eq] at h
    obtain ⟨⟨h1, h2⟩, h3⟩ := h
    rw [isTabL_all] at h3
    obtain ⟨t, rfl⟩ := rows_of (rows := rows) fun r hr => by
      obtain ⟨j, hj, e⟩ := List.mem_iff_getElem.mp hr
      obtain ⟨ns, e2, _⟩ := areIn_ok (h3 j r (by rw [List.getElem?_eq_getElem hj, e]))
      exact ⟨ns, e2⟩
    rw [List.length_map] at h1 h2 h3
    have key : ∀ (i : Nat) (r : List Int), t[i]? = some r → r.length = t.length - i ∧ ∀ x ∈ r, 0 ≤ x ∧ x ≤ 1000 := fun i r hr => by
      obtain ⟨ns, e, l1, l2, b⟩ := areIn_ok (h3 i (intsD r) (by rw [List.getElem?_map, hr]; rfl))
      cases intsD_inj e
      have hi := (List.getElem?_eq_some_iff.mp hr).1
      exact ⟨by omega, b⟩
    refine ⟨t, rfl, h1, h2, fun i r hr => (key i r hr).1, fun r hr => ?_⟩
    obtain ⟨j, hj, e⟩ := List.mem_iff_getElem.mp hr
    exact (key j r (by rw [List.getElem?_eq_getElem hj, e])).2
  | _ => simp [isTab] at h
theorem isTab_tab {t : Tab} (w : WT t) : isTab (tabD t) = true := by
  simp only [isTab, tabD, Bool.and_eq_true, decide_eq_true_eq, List.length_map]
  refine ⟨⟨w.n1, w.n7⟩, ?_⟩
  rw [isTabL_all]
  intro j r hj
  rw [List.getElem?_map] at hj
  cases e : t[j]? with
  | none => rw [e] at hj; cases hj
  | some row =>
    rw [e] at hj
    cases hj
    have hl := w.row j row e
    have hi := (List.getElem?_eq_some_iff.mp e).1
    rw [areIn_ints]
    simp only [Bool.and_eq_true, decide_eq_true_eq, List.all_eq_true]
    exact ⟨⟨by omega, by omega⟩, fun x hx => w.bnd row (List.mem_of_getElem? e) x hx⟩
theorem pure_ints (n : Nat) (ns : List Int) : pureN (n + 1) (intsD ns) = true := by
  unfold intsD
  rw [pureN_tup, List.all_map, List.all_eq_true]
  intro x _
  cases n <;> rfl
theorem pure_tab (n : Nat) (t : Tab) : pureN (n + 2) (tabD t) = true := by
  unfold tabD
  rw [pureN_tup, List.all_map, List.all_eq_true]
  intro x _
  exact pure_ints n x
theorem pur_tab (t : Tab) : Pur (tabD t) := pure_tab 58 t
theorem pur_ints (ns : List Int) : Pur (intsD ns) := pure_ints 59 ns

def Ext (G G' : GH) : Prop := ∀ b m, G b = some m → G' b = some m
theorem Ext.refl (G : GH) : Ext G G := fun _ _ h => h
theorem Ext.trans {G G1 G2 : GH} (a : Ext G G1) (b : Ext G1 G2) : Ext G G2 := fun c m h => b c m (a c m h)
theorem Ext.new {G : GH} {p : Addr} {m : MO} (h : G p = none) : Ext G (gup G p m) := fun b n hb => by
  rw [gup_ne (fun z => by rw [z, h] at hb; cases hb)]; exact hb
abbrev Rfs (A : Ad) (x : XD) (G : GH) (s : PySem.Str) : Prop := x A.cBad [("name", .str s)] G

theorem eq_pur {v u : D} {G : GH} {Q : DK} (h1 : Pur v) (h2 : Pur u) (q : Q (.bl (deq v u)) G) : rdEq v u G Q := ⟨60, Nat.le_refl _, h1, h2, q⟩
theorem ne_pur {v u : D} {G : GH} {Q : DK} (h1 : Pur v) (h2 : Pur u) (q : Q (.bl (!deq v u)) G) : rdNe v u G Q := ⟨60, Nat.le_refl _, h1, h2, q⟩

/-! ### the dice -/
def DiceL (m : Nat) (l : List D) : Prop := ∃ d0 d1 d2 : Int, l = [.int d0, .int d1, .int d2] ∧ 0 ≤ d0 ∧ 0 ≤ d1 ∧ 0 ≤ d2 ∧ d2 ≤ m
def Dc (G : GH) (a : Addr) (m : Nat) : Prop := ∃ l, G a = some (.lst l) ∧ DiceL m l
/-- all that is told but the dice at a stays, the dice were rolled up to m times -/
def Upd (a : Addr) (m : Nat) (G G' : GH) : Prop := (∀ b μ, b ≠ a → G b = some μ → G' b = some μ) ∧ Dc G' a m
theorem DiceL.mono {m n : Nat} {l : List D} (h : DiceL m l) (hl : m ≤ n) : DiceL n l := by
  obtain ⟨d0, d1, d2, e, h0, h1, h2, h3⟩ := h
  exact ⟨d0, d1, d2, e, h0, h1, h2, by omega⟩
theorem Upd.refl {a : Addr} {m : Nat} {G : GH} (h : Dc G a m) : Upd a m G G := ⟨fun _ _ _ h => h, h⟩
theorem Upd.mono {a : Addr} {m n : Nat} {G G' : GH} (h : Upd a m G G') (hl : m ≤ n) : Upd a n G G' := ⟨h.1, let ⟨l, g, d⟩ := h.2; ⟨l, g, d.mono hl⟩⟩
theorem Upd.trans {a : Addr} {m n : Nat} {G G1 G2 : GH} (h : Upd a m G G1) (h2 : Upd a n G1 G2) : Upd a n G G2 := ⟨fun b μ hb hg => h2.1 b μ hb (h.1 b μ hb hg), h2.2⟩
theorem Upd.gup {a : Addr} {m n : Nat} {G G1 : GH} {l : List D} (h : Upd a m G G1) (d : DiceL n l) : Upd a n G (gup G1 a (.lst l)) := ⟨fun b μ hb hg => by rw [gup_ne hb]; exact h.1 b μ hb hg, l, gup_same, d⟩
theorem Upd.ext {a : Addr} {m : Nat} {G G1 G2 : GH} (h : Upd a m G G1) (e : Ext G1 G2) : Upd a m G G2 := ⟨fun b μ hb hg => e b μ (h.1 b μ hb hg), let ⟨l, g, d⟩ := h.2; ⟨l, e _ _ g, d⟩⟩
def sp__law_dice (A : Ad) : SpD := fun zs G Q _ => match zs with
  | [.scr ns, .int k] => ns.length ≤ 63 ∧ 0 ≤ k ∧ k ≤ 63 ∧ ∀ p l, G p = none → DiceL 0 l → Q (.ref p) (gup G p (.lst l))
  | _ => False
theorem len__law_dice {A : Ad} {zs : List D} {G : GH} {Q : DK} {x : XD} (h : sp__law_dice A zs G Q x) : zs.length = 2 := by
  unfold sp__law_dice at h
  split at h <;> first | rfl | exact h.elim
def ds__law_dice (A : Ad) : DS := dSeq (dAsg (dIf (dTest (dOp rdLt (dVar 1) (dCB rdLen (dCons (dVar 0) dNil)))) (dOp rdIx (dVar 0) (dVar 1)) (dOp rdAdd (dOp rdMul (dC (.int 733)) (dVar 1)) (dC (.int 29)))) (gdName 2)) (dSeq (dAsg (dOp rdAdd (dC (.int 910003)) (dOp rdMul (dC (.int 7907)) (dVar 1))) (gdName 3)) (dSeq (dFor (dISeq (dOp rdAdd (dSl (dVar 0) dNoPart (dPart (dC (.int 6)))) (dLst (dCons (dVar 2) dNil)))) (gdName 4) (dAsg (dOp rdMod (dCB rdInt1 (dCons (dOp rdAdd (dOp rdMul (dVar 3) (dC (.int 48271))) (dOp rdMod (dCB rdInt1 (dCons (dVar 4) dNil)) (dC (.int 2147480009)))) dNil)) (dC (.int 2147480009))) (gdName 3))) (dRet (dLstM (dCons (dIf (dOr (dTest (dOp rdLt (dVar 2) (dC (.int 0)))) (dTest (dOp rdGe (dVar 2) (dOp rdPow (dC (.int 10)) (dC (.int 16)))))) (dCB rdAbs (dCons (dVar 2) dNil)) (dC (.int 0))) (dCons (dVar 3) (dCons (dC (.int 0)) dNil)))))))
def N__law_dice : List PySem.Str := ["script", "spot", "own", "mixed", "cell"]
theorem cmul_r {i j : Int} (h1 : -(2 ^ 64) < j) (h2 : j < 2 ^ 64) : CMul i j := .inr ⟨h1, h2⟩
theorem read__law_dice {A : Ad} {zs : List D} {G : GH} {Q : DK} {x : XD} (h : sp__law_dice A zs G Q x) : ds__law_dice A { nx := fun _ G' => Q .non G', rt := Q, xx := fun _ => x } (dstart N__law_dice zs) G := by
  unfold sp__law_dice at h
  split at h
  · rename_i ns k
    obtain ⟨hl, h0, h1, q⟩ := h
    unfold N__law_dice ds__law_dice
    -- what follows when own is known
    have main : ∀ own : Int, dLoop (fun _ => True) (gdName 4) (dAsg (dOp rdMod (dCB rdInt1 (dCons (dOp rdAdd (dOp rdMul (dVar 3) (dC (.int 48271))) (dOp rdMod (dCB rdInt1 (dCons (dVar 4) dNil)) (dC (.int 2147480009)))) dNil)) (dC (.int 2147480009))) (gdName 3))
        { nx := dRet (dLstM (dCons (dIf (dOr (dTest (dOp rdLt (dVar 2) (dC (.int 0)))) (dTest (dOp rdGe (dVar 2) (dOp rdPow (dC (.int 10)) (dC (.int 16)))))) (dCB rdAbs (dCons (dVar 2) dNil)) (dC (.int 0))) (dCons (dVar 3) (dCons (dC (.int 0)) dNil)))) { nx := fun x G' => Q D.non G', rt := Q, xx := fun _ => x }, rt := Q, xx := fun _ => x }
        (((cutX ns none (some 6)) ++ [own]).map D.int) [some (.scr ns), some (.int k), some (.int own), some (.int (910003 + 7907 * k)), none] G := fun own => by
      refine dLoop_inv (fun i ρ G' => ∃ mx o4, ρ = [some (.scr ns), some (.int k), some (.int own), some (.int mx), o4] ∧ 0 ≤ mx ∧ G' = G) 0 ⟨_, none, rfl, by omega, rfl⟩ (fun _ _ _ _ _ _ => trivial) (fun i d ρ G' hi hI K1 hK => ?_) (fun ρ G' hI => ?_)
      · obtain ⟨mx, o4, rfl, hm, rfl⟩ := hI
        rw [List.getElem?_map] at hi
        obtain ⟨c, _, rfl⟩ := Option.map_eq_some_iff.mp hi
        simp only [dRet, dRetN, dSeq, dAsg, dDrop, dIfS, dNext, dBreak, dCont, dPar, dSetL, dSetD, dFor, dVar, dC, dOp, dAndV, dOrV, dNotV, dAnd, dOr, dNot, dIf, dTest, dChain, dNil, dCons, dTup, dLst, dLstM, dStar, dNeg, dCB, dCall, dCallK, dMthT, dMth0, dLc, dYes, dISeq, dIStr, dIEnum, dIZip, dIRng1, dIRng2, dSl, dPart, dNoPart, dRaise, dDisp1, dNewD, dRevL, dRevT, dSortSet, dSortSetL, dIRng3, dGet2, dIKeys, dNewT, dSetT, dLstRg, dPar3, dLcM, dAugL, dSetdT, dDispT, dIItemsT, dIValsT, rdDInP, dFld, dSetF, dMake, dIKeysT, rdIsC, dCntC, dTupC, dSlC, dRevC, dISeqX, dMeth, dMeth0, dSetM, dNewM, lnX_t, lnX_l, srX_t, dLamA, dLamB, gdName, gdTup, gdCons, gdNil, dstart, dwipe, dAug, rdInt, rdSub, rdLt, rdLe, rdGt, rdGe, rdFdiv, rdMod, rdPow, at0, at1, at2, i30, i31, i32, set0, set1, set2, MO.lst.injEq, gup_same, gup_gup, ad_ii, ad_ss, ad_tt, ad_ll, mu_ii, mu_li, mu_ti, ix_t, ix_l, ix_s, ix_r, ix_w, ln_t, ln_l, ln_s, ln_w, ln_r, sr_t, sr_l, sr_s, sr_r, sl_t, sl_l, sl_s, sl_r, sl_w, tu_t, tu_l, tu_r, li_t, li_l, li_r, lm_t, lm_l, mx2, mn2, ab1, in1, is2, rdIsB, rdNotB, rdIsN, rdNotN, TD.isNon, List.map_cons, List.map_nil, List.length_cons, List.length_nil, List.replicate_succ, List.replicate_zero, List.cons_append, List.nil_append, List.append_nil, Nat.zero_add, Nat.reduceAdd, Nat.reduceSub, Nat.sub_self, Nat.add_sub_cancel, List.getElem?_cons_zero, List.getElem?_cons_succ, List.getElem?_nil, List.set_cons_zero, List.set_cons_succ, List.set_nil, Option.some.injEq, D.int.injEq, D.bl.injEq, D.str.injEq, D.ref.injEq, D.ty.injEq, D.tup.injEq, D.lst.injEq, List.cons.injEq, and_true, true_and, ex_two, ex_two', exists_eq_left', exists_eq_left, exists_and_left, exists_and_right, exists_const, exists_eq_right, exists_eq_right', Bool.not_true, Bool.not_false, if_true, if_false, Bool.false_eq_true, reduceCtorEq, false_and, and_false, decide_true, decide_false]
        exact ⟨cmul_r (by omega) (by omega), by omega, by omega, hK _ _ ⟨_, _, rfl, by omega, rfl⟩⟩
      · obtain ⟨mx, o4, rfl, hm, rfl⟩ := hI
        simp only [dRet, dRetN, dSeq, dAsg, dDrop, dIfS, dNext, dBreak, dCont, dPar, dSetL, dSetD, dFor, dVar, dC, dOp, dAndV, dOrV, dNotV, dAnd, dOr, dNot, dIf, dTest, dChain, dNil, dCons, dTup, dLst, dLstM, dStar, dNeg, dCB, dCall, dCallK, dMthT, dMth0, dLc, dYes, dISeq, dIStr, dIEnum, dIZip, dIRng1, dIRng2, dSl, dPart, dNoPart, dRaise, dDisp1, dNewD, dRevL, dRevT, dSortSet, dSortSetL, dIRng3, dGet2, dIKeys, dNewT, dSetT, dLstRg, dPar3, dLcM, dAugL, dSetdT, dDispT, dIItemsT, dIValsT, rdDInP, dFld, dSetF, dMake, dIKeysT, rdIsC, dCntC, dTupC, dSlC, dRevC, dISeqX, dMeth, dMeth0, dSetM, dNewM, lnX_t, lnX_l, srX_t, dLamA, dLamB, gdName, gdTup, gdCons, gdNil, dstart, dwipe, dAug, rdInt, rdSub, rdLt, rdLe, rdGt, rdGe, rdFdiv, rdMod, rdPow, at0, at1, at2, i30, i31, i32, set0, set1, set2, MO.lst.injEq, gup_same, gup_gup, ad_ii, ad_ss, ad_tt, ad_ll, mu_ii, mu_li, mu_ti, ix_t, ix_l, ix_s, ix_r, ix_w, ln_t, ln_l, ln_s, ln_w, ln_r, sr_t, sr_l, sr_s, sr_r, sl_t, sl_l, sl_s, sl_r, sl_w, tu_t, tu_l, tu_r, li_t, li_l, li_r, lm_t, lm_l, mx2, mn2, ab1, in1, is2, rdIsB, rdNotB, rdIsN, rdNotN, TD.isNon, List.map_cons, List.map_nil, List.length_cons, List.length_nil, List.replicate_succ, List.replicate_zero, List.cons_append, List.nil_append, List.append_nil, Nat.zero_add, Nat.reduceAdd, Nat.reduceSub, Nat.sub_self, Nat.add_sub_cancel, List.getElem?_cons_zero, List.getElem?_cons_succ, List.getElem?_nil, List.set_cons_zero, List.set_cons_succ, List.set_nil, Option.some.injEq, D.int.injEq, D.bl.injEq, D.str.injEq, D.ref.injEq, D.ty.injEq, D.tup.injEq, D.lst.injEq, List.cons.injEq, and_true, true_and, ex_two, ex_two', exists_eq_left', exists_eq_left, exists_and_left, exists_and_right, exists_const, exists_eq_right, exists_eq_right', Bool.not_true, Bool.not_false, if_true, if_false, Bool.false_eq_true, reduceCtorEq, false_and, and_false, decide_true, decide_false]
        have fin : ∀ d0 : Int, 0 ≤ d0 → (3 ≤ sizeLine ∧ ∀ p, G' p = none → Q (.ref p) (gup G' p (.lst [.int d0, .int mx, .int 0]))) := fun d0 hd => ⟨sz _ (by omega), fun p hp => q p _ hp ⟨d0, mx, 0, rfl, hd, hm, by omega, by omega⟩⟩
        by_cases c1 : own < 0
        · simp only [c1, decide_true, if_true]
          exact fin _ (by omega)
        · simp only [c1, decide_false, Bool.false_eq_true, if_false]
          refine ⟨⟨by omega, by omega, by decide⟩, ?_⟩
          by_cases c2 : (10 : Int) ^ (16 : Int).toNat ≤ own
          · simp only [c2, decide_true, if_true]
            exact fin _ (by omega)
          · simp only [c2, decide_false, Bool.false_eq_true, if_false]
            exact fin 0 (by omega)
    have hcut : (cutX ns none (some 6)).length ≤ 63 := by
      unfold cutX
      rw [List.length_take, List.length_drop]
      omega
    simp only [dRet, dRetN, dSeq, dAsg, dDrop, dIfS, dNext, dBreak, dCont, dPar, dSetL, dSetD, dFor, dVar, dC, dOp, dAndV, dOrV, dNotV, dAnd, dOr, dNot, dIf, dTest, dChain, dNil, dCons, dTup, dLst, dLstM, dStar, dNeg, dCB, dCall, dCallK, dMthT, dMth0, dLc, dYes, dISeq, dIStr, dIEnum, dIZip, dIRng1, dIRng2, dSl, dPart, dNoPart, dRaise, dDisp1, dNewD, dRevL, dRevT, dSortSet, dSortSetL, dIRng3, dGet2, dIKeys, dNewT, dSetT, dLstRg, dPar3, dLcM, dAugL, dSetdT, dDispT, dIItemsT, dIValsT, rdDInP, dFld, dSetF, dMake, dIKeysT, rdIsC, dCntC, dTupC, dSlC, dRevC, dISeqX, dMeth, dMeth0, dSetM, dNewM, lnX_t, lnX_l, srX_t, dLamA, dLamB, gdName, gdTup, gdCons, gdNil, dstart, dwipe, dAug, rdInt, rdSub, rdLt, rdLe, rdGt, rdGe, rdFdiv, rdMod, rdPow, at0, at1, at2, i30, i31, i32, set0, set1, set2, MO.lst.injEq, gup_same, gup_gup, ad_ii, ad_ss, ad_tt, ad_ll, mu_ii, mu_li, mu_ti, ix_t, ix_l, ix_s, ix_r, ix_w, ln_t, ln_l, ln_s, ln_w, ln_r, sr_t, sr_l, sr_s, sr_r, sl_t, sl_l, sl_s, sl_r, sl_w, tu_t, tu_l, tu_r, li_t, li_l, li_r, lm_t, lm_l, mx2, mn2, ab1, in1, is2, rdIsB, rdNotB, rdIsN, rdNotN, TD.isNon, List.map_cons, List.map_nil, List.length_cons, List.length_nil, List.replicate_succ, List.replicate_zero, List.cons_append, List.nil_append, List.append_nil, Nat.zero_add, Nat.reduceAdd, Nat.reduceSub, Nat.sub_self, Nat.add_sub_cancel, List.getElem?_cons_zero, List.getElem?_cons_succ, List.getElem?_nil, List.set_cons_zero, List.set_cons_succ, List.set_nil, Option.some.injEq, D.int.injEq, D.bl.injEq, D.str.injEq, D.ref.injEq, D.ty.injEq, D.tup.injEq, D.lst.injEq, List.cons.injEq, and_true, true_and, ex_two, ex_two', exists_eq_left', exists_eq_left, exists_and_left, exists_and_right, exists_const, exists_eq_right, exists_eq_right', Bool.not_true, Bool.not_false, if_true, if_false, Bool.false_eq_true, reduceCtorEq, false_and, and_false, decide_true, decide_false]
    by_cases c : k < (ns.length : Int)
    · simp only [c, decide_true, if_true]
      have hk : k.toNat < ns.length := by omega
      obtain ⟨j, rfl⟩ : ∃ j : Nat, k = (j : Int) := ⟨k.toNat, by omega⟩
      have hj : j < ns.length := by omega
      refine ⟨ns[j], atI_nat (List.getElem?_eq_getElem hj), cmul_r (by omega) (by omega), sz _ (by omega), ?_, ?_⟩
      · rw [List.length_map]; exact sz _ (by omega)
      · have := main ns[j]
        rw [List.map_append] at this
        exact this
    · simp only [c, decide_false, Bool.false_eq_true, if_false]
      refine ⟨cmul_r (by omega) (by omega), cmul_r (by omega) (by omega), sz _ (by omega), ?_, ?_⟩
      · rw [List.length_map]; exact sz _ (by omega)
      · have := main (733 * k + 29)
        rw [List.map_append] at this
        exact this
  · exact h.elim
def sp__law_roll (A : Ad) : SpD := fun zs G Q _ => match zs with
  | [.ref a, .int total] => ∃ m l, G a = some (.lst l) ∧ DiceL m l ∧ m ≤ 1000000 ∧ 0 < total ∧ total < 1000000 ∧ ∀ r l', 0 ≤ r → r < total → DiceL (m + 1) l' → Q (.int r) (gup G a (.lst l'))
  | _ => False
theorem len__law_roll {A : Ad} {zs : List D} {G : GH} {Q : DK} {x : XD} (h : sp__law_roll A zs G Q x) : zs.length = 2 := by
  unfold sp__law_roll at h
  split at h <;> first | rfl | exact h.elim
def ds__law_roll (A : Ad) : DS := dSeq (dIfS (dTest (dOp rdGt (dOp rdIx (dVar 0) (dC (.int 0))) (dC (.int 0)))) (dSeq (dAsg (dOp rdMod (dCB rdInt1 (dCons (dOp rdIx (dVar 0) (dC (.int 0))) dNil)) (dVar 1)) (gdName 2)) (dSeq (dSetL (dOp rdFdiv (dOp rdIx (dVar 0) (dC (.int 0))) (dVar 1)) (dVar 0) (dC (.int 0))) (dRet (dVar 2)))) dNext) (dSeq (dSetL (dOp rdAdd (dOp rdIx (dVar 0) (dC (.int 2))) (dC (.int 1))) (dVar 0) (dC (.int 2))) (dSeq (dSetL (dOp rdMod (dCB rdInt1 (dCons (dOp rdAdd (dOp rdAdd (dOp rdMul (dOp rdIx (dVar 0) (dC (.int 1))) (dC (.int 52501))) (dOp rdMul (dOp rdMul (dOp rdIx (dVar 0) (dC (.int 2))) (dOp rdIx (dVar 0) (dC (.int 2)))) (dC (.int 1009)))) (dC (.int 77))) dNil)) (dC (.int 2147480009))) (dVar 0) (dC (.int 1))) (dRet (dOp rdMod (dCB rdInt1 (dCons (dOp rdFdiv (dOp rdIx (dVar 0) (dC (.int 1))) (dC (.int 211))) dNil)) (dVar 1)))))
def N__law_roll : List PySem.Str := ["dice", "total", "found"]
theorem ixN3_0 {α : Type} (a b c : α) : ixN [a, b, c].length 0 = some 0 := rfl
theorem ixN3_1 {α : Type} (a b c : α) : ixN [a, b, c].length 1 = some 1 := rfl
theorem ixN3_2 {α : Type} (a b c : α) : ixN [a, b, c].length 2 = some 2 := rfl
theorem read__law_roll {A : Ad} {zs : List D} {G : GH} {Q : DK} {x : XD} (h : sp__law_roll A zs G Q x) : ds__law_roll A { nx := fun _ G' => Q .non G', rt := Q, xx := fun _ => x } (dstart N__law_roll zs) G := by
  unfold sp__law_roll at h
  split at h
  · rename_i a total
    obtain ⟨m, l, g, ⟨d0, d1, d2, rfl, h0, h1, h2, h3⟩, hm, ht, ht2, q⟩ := h
    unfold N__law_roll ds__law_roll
    simp only [dRet, dRetN, dSeq, dAsg, dDrop, dIfS, dNext, dBreak, dCont, dPar, dSetL, dSetD, dFor, dVar, dC, dOp, dAndV, dOrV, dNotV, dAnd, dOr, dNot, dIf, dTest, dChain, dNil, dCons, dTup, dLst, dLstM, dStar, dNeg, dCB, dCall, dCallK, dMthT, dMth0, dLc, dYes, dISeq, dIStr, dIEnum, dIZip, dIRng1, dIRng2, dSl, dPart, dNoPart, dRaise, dDisp1, dNewD, dRevL, dRevT, dSortSet, dSortSetL, dIRng3, dGet2, dIKeys, dNewT, dSetT, dLstRg, dPar3, dLcM, dAugL, dSetdT, dDispT, dIItemsT, dIValsT, rdDInP, dFld, dSetF, dMake, dIKeysT, rdIsC, dCntC, dTupC, dSlC, dRevC, dISeqX, dMeth, dMeth0, dSetM, dNewM, lnX_t, lnX_l, srX_t, dLamA, dLamB, gdName, gdTup, gdCons, gdNil, dstart, dwipe, dAug, rdInt, rdSub, rdLt, rdLe, rdGt, rdGe, rdFdiv, rdMod, rdPow, at0, at1, at2, i30, i31, i32, set0, set1, set2, MO.lst.injEq, gup_same, gup_gup, ad_ii, ad_ss, ad_tt, ad_ll, mu_ii, mu_li, mu_ti, ix_t, ix_l, ix_s, ix_r, ix_w, ln_t, ln_l, ln_s, ln_w, ln_r, sr_t, sr_l, sr_s, sr_r, sl_t, sl_l, sl_s, sl_r, sl_w, tu_t, tu_l, tu_r, li_t, li_l, li_r, lm_t, lm_l, mx2, mn2, ab1, in1, is2, rdIsB, rdNotB, rdIsN, rdNotN, TD.isNon, List.map_cons, List.map_nil, List.length_cons, List.length_nil, List.replicate_succ, List.replicate_zero, List.cons_append, List.nil_append, List.append_nil, Nat.zero_add, Nat.reduceAdd, Nat.reduceSub, Nat.sub_self, Nat.add_sub_cancel, List.getElem?_cons_zero, List.getElem?_cons_succ, List.getElem?_nil, List.set_cons_zero, List.set_cons_succ, List.set_nil, Option.some.injEq, D.int.injEq, D.bl.injEq, D.str.injEq, D.ref.injEq, D.ty.injEq, D.tup.injEq, D.lst.injEq, List.cons.injEq, and_true, true_and, ex_two, ex_two', exists_eq_left', exists_eq_left, exists_and_left, exists_and_right, exists_const, exists_eq_right, exists_eq_right', Bool.not_true, Bool.not_false, if_true, if_false, Bool.false_eq_true, reduceCtorEq, false_and, and_false, decide_true, decide_false, g]
    by_cases c : 0 < d0
    · simp only [c, decide_true, if_true]
      refine ⟨ht, ⟨ht, by omega⟩, ?_⟩
      exact q _ _ (Int.emod_nonneg _ (by omega)) (Int.emod_lt_of_pos _ ht) ⟨_, _, _, rfl, Int.ediv_nonneg h0 (by omega), h1, h2, by omega⟩
    · simp only [c, decide_false, Bool.false_eq_true, if_false]
      have hz : d0 = 0 := by omega
      have e1 : (d2 + 1 : Int) ≤ 1000002 := by omega
      have e0 : 0 < (d2 + 1 : Int) := by omega
      have sq : 0 ≤ (d2 + 1) * (d2 + 1) := Int.mul_nonneg (by omega) (by omega)
      have sq2 : (d2 + 1) * (d2 + 1) ≤ 1000002 * 1000002 := Int.mul_le_mul e1 e1 (by omega) (by omega)
      refine ⟨cmul_r (by omega) (by omega), cmul_r (by omega) (by omega), cmul_r (by omega) (by omega), by omega, ?_, ht, ?_⟩
      · have := Int.emod_lt_of_pos (d1 * 52501 + (d2 + 1) * (d2 + 1) * 1009) (b := 2147480009) (by omega)
        have := Int.emod_nonneg (d1 * 52501 + (d2 + 1) * (d2 + 1) * 1009) (b := 2147480009) (by omega)
        exact ⟨by omega, by omega⟩
      · exact q _ _ (Int.emod_nonneg _ (by omega)) (Int.emod_lt_of_pos _ ht) ⟨_, _, _, rfl, by omega, Int.emod_nonneg _ (by omega), by omega, by omega⟩
  · exact h.elim

theorem roll_of {A : Ad} {a : Addr} {total : Int} {G : GH} {Q : DK} {x : XD} {m : Nat} (h : Dc G a m) (hm : m ≤ 1000000) (ht : 0 < total) (ht2 : total < 1000000) (q : ∀ (r : Nat) G', (r : Int) < total → Upd a (m + 1) G G' → Q (.int r) G') : sp__law_roll A [.ref a, .int total] G Q x := by
  obtain ⟨l, g, d⟩ := h
  refine ⟨m, l, g, d, hm, ht, ht2, fun r l' h0 h1 hd => ?_⟩
  have := q r.toNat (gup G a (.lst l')) (by omega) ⟨fun b μ hb hg => by rw [gup_ne hb]; exact hg, l', gup_same, hd⟩
  rw [Int.toNat_of_nonneg h0] at this
  exact this
def sp__law_pick (A : Ad) : SpD := fun zs G Q _ => match zs with
  | [.ref a, .lst things] => ∃ m, Dc G a m ∧ m ≤ 1000000 ∧ 0 < things.length ∧ things.length < 1000000 ∧ ∀ z ∈ things, ∀ G', Upd a (m + 1) G G' → Q z G'
  | _ => False
theorem len__law_pick {A : Ad} {zs : List D} {G : GH} {Q : DK} {x : XD} (h : sp__law_pick A zs G Q x) : zs.length = 2 := by
  unfold sp__law_pick at h
  split at h <;> first | rfl | exact h.elim
def ds__law_pick (A : Ad) : DS := dRet (dOp rdIx (dVar 1) (dCall (sp__law_roll A) (dCons (dVar 0) (dCons (dCB rdLen (dCons (dVar 1) dNil)) dNil))))
def N__law_pick : List PySem.Str := ["dice", "things"]
theorem read__law_pick {A : Ad} {zs : List D} {G : GH} {Q : DK} {x : XD} (h : sp__law_pick A zs G Q x) : ds__law_pick A { nx := fun _ G' => Q .non G', rt := Q, xx := fun _ => x } (dstart N__law_pick zs) G := by
  unfold sp__law_pick at h
  split at h
  · rename_i a things
    obtain ⟨m, d, hm, h0, h1, q⟩ := h
    unfold N__law_pick ds__law_pick
    try simp only [dRet, dRetN, dSeq, dAsg, dDrop, dIfS, dNext, dBreak, dCont, dPar, dSetL, dSetD, dFor, dVar, dC, dOp, dAndV, dOrV, dNotV, dAnd, dOr, dNot, dIf, dTest, dChain, dNil, dCons, dTup, dLst, dLstM, dStar, dNeg, dCB, dCall, dCallK, dMthT, dMth0, dLc, dYes, dISeq, dIStr, dIEnum, dIZip, dIRng1, dIRng2, dSl, dPart, dNoPart, dRaise, dDisp1, dNewD, dRevL, dRevT, dSortSet, dSortSetL, dIRng3, dGet2, dIKeys, dNewT, dSetT, dLstRg, dPar3, dLcM, dAugL, dSetdT, dDispT, dIItemsT, dIValsT, rdDInP, dFld, dSetF, dMake, dIKeysT, rdIsC, dCntC, dTupC, dSlC, dRevC, dISeqX, dMeth, dMeth0, dSetM, dNewM, lnX_t, lnX_l, srX_t, dLamA, dLamB, gdName, gdTup, gdCons, gdNil, dstart, dwipe, dAug, rdInt, rdSub, rdLt, rdLe, rdGt, rdGe, rdFdiv, rdMod, rdPow, at0, at1, at2, i30, i31, i32, set0, set1, set2, MO.lst.injEq, gup_same, gup_gup, ad_ii, ad_ss, ad_tt, ad_ll, mu_ii, mu_li, mu_ti, ix_t, ix_l, ix_s, ix_r, ix_w, ln_t, ln_l, ln_s, ln_w, ln_r, sr_t, sr_l, sr_s, sr_r, sl_t, sl_l, sl_s, sl_r, sl_w, tu_t, tu_l, tu_r, li_t, li_l, li_r, lm_t, lm_l, mx2, mn2, ab1, in1, is2, rdIsB, rdNotB, rdIsN, rdNotN, TD.isNon, List.map_cons, List.map_nil, List.length_cons, List.length_nil, List.replicate_succ, List.replicate_zero, List.cons_append, List.nil_append, List.append_nil, Nat.zero_add, Nat.reduceAdd, Nat.reduceSub, Nat.sub_self, Nat.add_sub_cancel, List.getElem?_cons_zero, List.getElem?_cons_succ, List.getElem?_nil, List.set_cons_zero, List.set_cons_succ, List.set_nil, Option.some.injEq, D.int.injEq, D.bl.injEq, D.str.injEq, D.ref.injEq, D.ty.injEq, D.tup.injEq, D.lst.injEq, List.cons.injEq, and_true, true_and, ex_two, ex_two', exists_eq_left', exists_eq_left, exists_and_left, exists_and_right, exists_const, exists_eq_right, exists_eq_right', Bool.not_true, Bool.not_false, if_true, if_false, Bool.false_eq_true, reduceCtorEq, false_and, and_false, decide_true, decide_false]
    refine roll_of d hm (by omega) (by omega) fun r G' hr u => ?_
    try simp only [dRet, dRetN, dSeq, dAsg, dDrop, dIfS, dNext, dBreak, dCont, dPar, dSetL, dSetD, dFor, dVar, dC, dOp, dAndV, dOrV, dNotV, dAnd, dOr, dNot, dIf, dTest, dChain, dNil, dCons, dTup, dLst, dLstM, dStar, dNeg, dCB, dCall, dCallK, dMthT, dMth0, dLc, dYes, dISeq, dIStr, dIEnum, dIZip, dIRng1, dIRng2, dSl, dPart, dNoPart, dRaise, dDisp1, dNewD, dRevL, dRevT, dSortSet, dSortSetL, dIRng3, dGet2, dIKeys, dNewT, dSetT, dLstRg, dPar3, dLcM, dAugL, dSetdT, dDispT, dIItemsT, dIValsT, rdDInP, dFld, dSetF, dMake, dIKeysT, rdIsC, dCntC, dTupC, dSlC, dRevC, dISeqX, dMeth, dMeth0, dSetM, dNewM, lnX_t, lnX_l, srX_t, dLamA, dLamB, gdName, gdTup, gdCons, gdNil, dstart, dwipe, dAug, rdInt, rdSub, rdLt, rdLe, rdGt, rdGe, rdFdiv, rdMod, rdPow, at0, at1, at2, i30, i31, i32, set0, set1, set2, MO.lst.injEq, gup_same, gup_gup, ad_ii, ad_ss, ad_tt, ad_ll, mu_ii, mu_li, mu_ti, ix_t, ix_l, ix_s, ix_r, ix_w, ln_t, ln_l, ln_s, ln_w, ln_r, sr_t, sr_l, sr_s, sr_r, sl_t, sl_l, sl_s, sl_r, sl_w, tu_t, tu_l, tu_r, li_t, li_l, li_r, lm_t, lm_l, mx2, mn2, ab1, in1, is2, rdIsB, rdNotB, rdIsN, rdNotN, TD.isNon, List.map_cons, List.map_nil, List.length_cons, List.length_nil, List.replicate_succ, List.replicate_zero, List.cons_append, List.nil_append, List.append_nil, Nat.zero_add, Nat.reduceAdd, Nat.reduceSub, Nat.sub_self, Nat.add_sub_cancel, List.getElem?_cons_zero, List.getElem?_cons_succ, List.getElem?_nil, List.set_cons_zero, List.set_cons_succ, List.set_nil, Option.some.injEq, D.int.injEq, D.bl.injEq, D.str.injEq, D.ref.injEq, D.ty.injEq, D.tup.injEq, D.lst.injEq, List.cons.injEq, and_true, true_and, ex_two, ex_two', exists_eq_left', exists_eq_left, exists_and_left, exists_and_right, exists_const, exists_eq_right, exists_eq_right', Bool.not_true, Bool.not_false, if_true, if_false, Bool.false_eq_true, reduceCtorEq, false_and, and_false, decide_true, decide_false]
    have hr' : r < things.length := by omega
    exact ⟨_, atI_nat (List.getElem?_eq_getElem hr'), q _ (List.getElem_mem _) G' u⟩
  · exact h.elim
theorem pick_of {A : Ad} {a : Addr} {things : List D} {G : GH} {Q : DK} {x : XD} {m : Nat} (h : Dc G a m) (hm : m ≤ 1000000) (h0 : 0 < things.length) (h1 : things.length < 1000000) (q : ∀ z ∈ things, ∀ G', Upd a (m + 1) G G' → Q z G') : sp__law_pick A [.ref a, .lst things] G Q x := ⟨m, h, hm, h0, h1, q⟩

theorem rngD_get {lo : Int} {n i : Nat} {d : D} (h : (rngD lo n)[i]? = some d) : i < n ∧ d = .int (lo + (i : Nat)) := by
  unfold rngD at h
  rw [List.getElem?_map] at h
  by_cases hi : i < n
  · rw [List.getElem?_range hi] at h
    cases h
    exact ⟨hi, rfl⟩
  · rw [List.getElem?_eq_none (by rw [List.length_range]; omega)] at h
    cases h
theorem rngD_len (lo : Int) (n : Nat) : (rngD lo n).length = n := by unfold rngD; rw [List.length_map, List.length_range]
theorem rngD_mem {lo : Int} {n : Nat} {d : D} (h : d ∈ rngD lo n) : ∃ i : Nat, i < n ∧ d = .int (lo + (i : Nat)) := by
  unfold rngD at h
  obtain ⟨i, hi, rfl⟩ := List.mem_map.mp h
  exact ⟨i, List.mem_range.mp hi, rfl⟩

def sp__law_k_table (A : Ad) : SpD := fun zs G Q _ => match zs with
  | [.ref a] => ∃ m, Dc G a m ∧ m ≤ 500000 ∧ ∀ t G', WT t → Upd a (m + 1000) G G' → Q (tabD t) G'
  | _ => False
theorem len__law_k_table {A : Ad} {zs : List D} {G : GH} {Q : DK} {x : XD} (h : sp__law_k_table A zs G Q x) : zs.length = 1 := by
  unfold sp__law_k_table at h
  split at h <;> first | rfl | exact h.elim
def ds__law_k_table (A : Ad) : DS := dSeq (dAsg (dTup (dCons (dOp rdAdd (dC (.int 2)) (dCall (sp__law_roll A) (dCons (dVar 0) (dCons (dC (.int 7)) dNil)))) (dCons (dCall (sp__law_pick A) (dCons (dVar 0) (dCons (dLst (dCons (dC (.int 5)) (dCons (dC (.int 40)) (dCons (dC (.int 1000)) dNil)))) dNil))) dNil))) (gdTup (gdCons (gdName 1) (gdCons (gdName 2) gdNil)) 2)) (dRet (dCB rdTuple (dCons (dLc (dIRng1 (dCons (dOp rdSub (dVar 1) (dC (.int 1))) dNil)) (gdName 4) dYes (dCB rdTuple (dCons (dLc (dIRng1 (dCons (dOp rdSub (dOp rdSub (dVar 1) (dC (.int 1))) (dVar 4)) dNil)) (gdName 3) dYes (dCall (sp__law_pick A) (dCons (dVar 0) (dCons (dLst (dCons (dCall (sp__law_roll A) (dCons (dVar 0) (dCons (dOp rdAdd (dVar 2) (dC (.int 1))) dNil))) (dCons (dVar 2) (dCons (dCall (sp__law_roll A) (dCons (dVar 0) (dCons (dC (.int 4)) dNil))) dNil)))) dNil))) [3]) dNil)) [4]) dNil)))
def N__law_k_table : List PySem.Str := ["dice", "gates", "most", "end", "start"]
theorem intsL_snoc (r : List Int) (x : Int) : r.map D.int ++ [D.int x] = (r ++ [x]).map D.int := by rw [List.map_append]; rfl
theorem tabL_snoc (t : Tab) (r : List Int) : t.map intsD ++ [D.tup (r.map D.int)] = (t ++ [r]).map intsD := by rw [List.map_append]; rfl
theorem read__law_k_table {A : Ad} {zs : List D} {G : GH} {Q : DK} {x : XD} (h : sp__law_k_table A zs G Q x) : ds__law_k_table A { nx := fun _ G' => Q .non G', rt := Q, xx := fun _ => x } (dstart N__law_k_table zs) G := by
  unfold sp__law_k_table at h
  split at h
  · rename_i a
    obtain ⟨m, d, hm, q⟩ := h
    unfold N__law_k_table ds__law_k_table
    try simp only [dRet, dRetN, dSeq, dAsg, dDrop, dIfS, dNext, dBreak, dCont, dPar, dSetL, dSetD, dFor, dVar, dC, dOp, dAndV, dOrV, dNotV, dAnd, dOr, dNot, dIf, dTest, dChain, dNil, dCons, dTup, dLst, dLstM, dStar, dNeg, dCB, dCall, dCallK, dMthT, dMth0, dLc, dYes, dISeq, dIStr, dIEnum, dIZip, dIRng1, dIRng2, dSl, dPart, dNoPart, dRaise, dDisp1, dNewD, dRevL, dRevT, dSortSet, dSortSetL, dIRng3, dGet2, dIKeys, dNewT, dSetT, dLstRg, dPar3, dLcM, dAugL, dSetdT, dDispT, dIItemsT, dIValsT, rdDInP, dFld, dSetF, dMake, dIKeysT, rdIsC, dCntC, dTupC, dSlC, dRevC, dISeqX, dMeth, dMeth0, dSetM, dNewM, lnX_t, lnX_l, srX_t, dLamA, dLamB, gdName, gdTup, gdCons, gdNil, dstart, dwipe, dAug, rdInt, rdSub, rdLt, rdLe, rdGt, rdGe, rdFdiv, rdMod, rdPow, at0, at1, at2, i30, i31, i32, set0, set1, set2, MO.lst.injEq, gup_same, gup_gup, ad_ii, ad_ss, ad_tt, ad_ll, mu_ii, mu_li, mu_ti, ix_t, ix_l, ix_s, ix_r, ix_w, ln_t, ln_l, ln_s, ln_w, ln_r, sr_t, sr_l, sr_s, sr_r, sl_t, sl_l, sl_s, sl_r, sl_w, tu_t, tu_l, tu_r, li_t, li_l, li_r, lm_t, lm_l, mx2, mn2, ab1, in1, is2, rdIsB, rdNotB, rdIsN, rdNotN, TD.isNon, List.map_cons, List.map_nil, List.length_cons, List.length_nil, List.replicate_succ, List.replicate_zero, List.cons_append, List.nil_append, List.append_nil, Nat.zero_add, Nat.reduceAdd, Nat.reduceSub, Nat.sub_self, Nat.add_sub_cancel, List.getElem?_cons_zero, List.getElem?_cons_succ, List.getElem?_nil, List.set_cons_zero, List.set_cons_succ, List.set_nil, Option.some.injEq, D.int.injEq, D.bl.injEq, D.str.injEq, D.ref.injEq, D.ty.injEq, D.tup.injEq, D.lst.injEq, List.cons.injEq, and_true, true_and, ex_two, ex_two', exists_eq_left', exists_eq_left, exists_and_left, exists_and_right, exists_const, exists_eq_right, exists_eq_right', Bool.not_true, Bool.not_false, if_true, if_false, Bool.false_eq_true, reduceCtorEq, false_and, and_false, decide_true, decide_false]
    refine roll_of d (by omega) (by omega) (by omega) fun r G1 hr u1 => ?_
    try simp only [dRet, dRetN, dSeq, dAsg, dDrop, dIfS, dNext, dBreak, dCont, dPar, dSetL, dSetD, dFor, dVar, dC, dOp, dAndV, dOrV, dNotV, dAnd, dOr, dNot, dIf, dTest, dChain, dNil, dCons, dTup, dLst, dLstM, dStar, dNeg, dCB, dCall, dCallK, dMthT, dMth0, dLc, dYes, dISeq, dIStr, dIEnum, dIZip, dIRng1, dIRng2, dSl, dPart, dNoPart, dRaise, dDisp1, dNewD, dRevL, dRevT, dSortSet, dSortSetL, dIRng3, dGet2, dIKeys, dNewT, dSetT, dLstRg, dPar3, dLcM, dAugL, dSetdT, dDispT, dIItemsT, dIValsT, rdDInP, dFld, dSetF, dMake, dIKeysT, rdIsC, dCntC, dTupC, dSlC, dRevC, dISeqX, dMeth, dMeth0, dSetM, dNewM, lnX_t, lnX_l, srX_t, dLamA, dLamB, gdName, gdTup, gdCons, gdNil, dstart, dwipe, dAug, rdInt, rdSub, rdLt, rdLe, rdGt, rdGe, rdFdiv, rdMod, rdPow, at0, at1, at2, i30, i31, i32, set0, set1, set2, MO.lst.injEq, gup_same, gup_gup, ad_ii, ad_ss, ad_tt, ad_ll, mu_ii, mu_li, mu_ti, ix_t, ix_l, ix_s, ix_r, ix_w, ln_t, ln_l, ln_s, ln_w, ln_r, sr_t, sr_l, sr_s, sr_r, sl_t, sl_l, sl_s, sl_r, sl_w, tu_t, tu_l, tu_r, li_t, li_l, li_r, lm_t, lm_l, mx2, mn2, ab1, in1, is2, rdIsB, rdNotB, rdIsN, rdNotN, TD.isNon, List.map_cons, List.map_nil, List.length_cons, List.length_nil, List.replicate_succ, List.replicate_zero, List.cons_append, List.nil_append, List.append_nil, Nat.zero_add, Nat.reduceAdd, Nat.reduceSub, Nat.sub_self, Nat.add_sub_cancel, List.getElem?_cons_zero, List.getElem?_cons_succ, List.getElem?_nil, List.set_cons_zero, List.set_cons_succ, List.set_nil, Option.some.injEq, D.int.injEq, D.bl.injEq, D.str.injEq, D.ref.injEq, D.ty.injEq, D.tup.injEq, D.lst.injEq, List.cons.injEq, and_true, true_and, ex_two, ex_two', exists_eq_left', exists_eq_left, exists_and_left, exists_and_right, exists_const, exists_eq_right, exists_eq_right', Bool.not_true, Bool.not_false, if_true, if_false, Bool.false_eq_true, reduceCtorEq, false_and, and_false, decide_true, decide_false]
    refine ⟨sz _ (by omega), ?_⟩
    refine pick_of u1.2 (by omega) (by decide) (by decide) fun z hz G2 u2 => ?_
    obtain ⟨mo, rfl, hmo0, hmo⟩ : ∃ mo : Int, z = .int mo ∧ 5 ≤ mo ∧ mo ≤ 1000 := by
      simp only [List.mem_cons, List.not_mem_nil, or_false] at hz
      rcases hz with rfl | rfl | rfl
      · exact ⟨5, rfl, by omega, by omega⟩
      · exact ⟨40, rfl, by omega, by omega⟩
      · exact ⟨1000, rfl, by omega, by omega⟩
    have u3 := u1.trans u2
    have en : (2 + (r : Int) - 1).toNat = r + 1 := by omega
    refine ⟨sz _ (by omega), by omega, sz _ (by omega), ?_⟩
    rw [en]
    refine dComp_inv (fun i acc G' => ∃ t : Tab, acc = t.map intsD ∧ t.length = i ∧ (∀ (j : Nat) (row : List Int), t[j]? = some row → row.length = r + 1 - j ∧ ∀ x ∈ row, 0 ≤ x ∧ x ≤ 1000) ∧ Upd a (m + 2 + 30 * i) G G') 0 ⟨[], rfl, rfl, fun j row hj => by simp at hj, u3⟩ (fun _ _ _ _ _ _ => trivial) (fun i dd acc G3 hi hI K1 hK => ?_) (fun acc G3 hI => ?_)
    · obtain ⟨t, rfl, hl, hb, u⟩ := hI
      obtain ⟨hi1, rfl⟩ := rngD_get hi
      rw [Nat.zero_add] at *
      have ee : (0 : Int) + (i : Int) = (i : Int) := by omega
      rw [ee]
      try simp only [dRet, dRetN, dSeq, dAsg, dDrop, dIfS, dNext, dBreak, dCont, dPar, dSetL, dSetD, dFor, dVar, dC, dOp, dAndV, dOrV, dNotV, dAnd, dOr, dNot, dIf, dTest, dChain, dNil, dCons, dTup, dLst, dLstM, dStar, dNeg, dCB, dCall, dCallK, dMthT, dMth0, dLc, dYes, dISeq, dIStr, dIEnum, dIZip, dIRng1, dIRng2, dSl, dPart, dNoPart, dRaise, dDisp1, dNewD, dRevL, dRevT, dSortSet, dSortSetL, dIRng3, dGet2, dIKeys, dNewT, dSetT, dLstRg, dPar3, dLcM, dAugL, dSetdT, dDispT, dIItemsT, dIValsT, rdDInP, dFld, dSetF, dMake, dIKeysT, rdIsC, dCntC, dTupC, dSlC, dRevC, dISeqX, dMeth, dMeth0, dSetM, dNewM, lnX_t, lnX_l, srX_t, dLamA, dLamB, gdName, gdTup, gdCons, gdNil, dstart, dwipe, dAug, rdInt, rdSub, rdLt, rdLe, rdGt, rdGe, rdFdiv, rdMod, rdPow, at0, at1, at2, i30, i31, i32, set0, set1, set2, MO.lst.injEq, gup_same, gup_gup, ad_ii, ad_ss, ad_tt, ad_ll, mu_ii, mu_li, mu_ti, ix_t, ix_l, ix_s, ix_r, ix_w, ln_t, ln_l, ln_s, ln_w, ln_r, sr_t, sr_l, sr_s, sr_r, sl_t, sl_l, sl_s, sl_r, sl_w, tu_t, tu_l, tu_r, li_t, li_l, li_r, lm_t, lm_l, mx2, mn2, ab1, in1, is2, rdIsB, rdNotB, rdIsN, rdNotN, TD.isNon, List.map_cons, List.map_nil, List.length_cons, List.length_nil, List.replicate_succ, List.replicate_zero, List.cons_append, List.nil_append, List.append_nil, Nat.zero_add, Nat.reduceAdd, Nat.reduceSub, Nat.sub_self, Nat.add_sub_cancel, List.getElem?_cons_zero, List.getElem?_cons_succ, List.getElem?_nil, List.set_cons_zero, List.set_cons_succ, List.set_nil, Option.some.injEq, D.int.injEq, D.bl.injEq, D.str.injEq, D.ref.injEq, D.ty.injEq, D.tup.injEq, D.lst.injEq, List.cons.injEq, and_true, true_and, ex_two, ex_two', exists_eq_left', exists_eq_left, exists_and_left, exists_and_right, exists_const, exists_eq_right, exists_eq_right', Bool.not_true, Bool.not_false, if_true, if_false, Bool.false_eq_true, reduceCtorEq, false_and, and_false, decide_true, decide_false]
      have en2 : (2 + (r : Int) - 1 - (i : Int)).toNat = r + 1 - i := by omega
      refine ⟨by omega, sz _ (by omega), ?_⟩
      rw [en2]
      refine dComp_inv (fun j acc G' => ∃ row : List Int, acc = row.map D.int ∧ row.length = j ∧ (∀ x ∈ row, 0 ≤ x ∧ x ≤ 1000) ∧ Upd a (m + 2 + 30 * i + 3 * j) G G') 0 ⟨[], rfl, rfl, fun x hx => by simp at hx, u⟩ (fun _ _ _ _ _ _ => trivial) (fun j dd acc G4 hj hJ K2 hK2 => ?_) (fun acc G4 hJ => ?_)
      · obtain ⟨row, rfl, hl2, hb2, u4⟩ := hJ
        obtain ⟨hj1, rfl⟩ := rngD_get hj
        rw [Nat.zero_add] at *
        try simp only [dRet, dRetN, dSeq, dAsg, dDrop, dIfS, dNext, dBreak, dCont, dPar, dSetL, dSetD, dFor, dVar, dC, dOp, dAndV, dOrV, dNotV, dAnd, dOr, dNot, dIf, dTest, dChain, dNil, dCons, dTup, dLst, dLstM, dStar, dNeg, dCB, dCall, dCallK, dMthT, dMth0, dLc, dYes, dISeq, dIStr, dIEnum, dIZip, dIRng1, dIRng2, dSl, dPart, dNoPart, dRaise, dDisp1, dNewD, dRevL, dRevT, dSortSet, dSortSetL, dIRng3, dGet2, dIKeys, dNewT, dSetT, dLstRg, dPar3, dLcM, dAugL, dSetdT, dDispT, dIItemsT, dIValsT, rdDInP, dFld, dSetF, dMake, dIKeysT, rdIsC, dCntC, dTupC, dSlC, dRevC, dISeqX, dMeth, dMeth0, dSetM, dNewM, lnX_t, lnX_l, srX_t, dLamA, dLamB, gdName, gdTup, gdCons, gdNil, dstart, dwipe, dAug, rdInt, rdSub, rdLt, rdLe, rdGt, rdGe, rdFdiv, rdMod, rdPow, at0, at1, at2, i30, i31, i32, set0, set1, set2, MO.lst.injEq, gup_same, gup_gup, ad_ii, ad_ss, ad_tt, ad_ll, mu_ii, mu_li, mu_ti, ix_t, ix_l, ix_s, ix_r, ix_w, ln_t, ln_l, ln_s, ln_w, ln_r, sr_t, sr_l, sr_s, sr_r, sl_t, sl_l, sl_s, sl_r, sl_w, tu_t, tu_l, tu_r, li_t, li_l, li_r, lm_t, lm_l, mx2, mn2, ab1, in1, is2, rdIsB, rdNotB, rdIsN, rdNotN, TD.isNon, List.map_cons, List.map_nil, List.length_cons, List.length_nil, List.replicate_succ, List.replicate_zero, List.cons_append, List.nil_append, List.append_nil, Nat.zero_add, Nat.reduceAdd, Nat.reduceSub, Nat.sub_self, Nat.add_sub_cancel, List.getElem?_cons_zero, List.getElem?_cons_succ, List.getElem?_nil, List.set_cons_zero, List.set_cons_succ, List.set_nil, Option.some.injEq, D.int.injEq, D.bl.injEq, D.str.injEq, D.ref.injEq, D.ty.injEq, D.tup.injEq, D.lst.injEq, List.cons.injEq, and_true, true_and, ex_two, ex_two', exists_eq_left', exists_eq_left, exists_and_left, exists_and_right, exists_const, exists_eq_right, exists_eq_right', Bool.not_true, Bool.not_false, if_true, if_false, Bool.false_eq_true, reduceCtorEq, false_and, and_false, decide_true, decide_false]
        refine roll_of u4.2 (by omega) (by omega) (by omega) fun r1 G5 hr1 u5 => ?_
        try simp only [dRet, dRetN, dSeq, dAsg, dDrop, dIfS, dNext, dBreak, dCont, dPar, dSetL, dSetD, dFor, dVar, dC, dOp, dAndV, dOrV, dNotV, dAnd, dOr, dNot, dIf, dTest, dChain, dNil, dCons, dTup, dLst, dLstM, dStar, dNeg, dCB, dCall, dCallK, dMthT, dMth0, dLc, dYes, dISeq, dIStr, dIEnum, dIZip, dIRng1, dIRng2, dSl, dPart, dNoPart, dRaise, dDisp1, dNewD, dRevL, dRevT, dSortSet, dSortSetL, dIRng3, dGet2, dIKeys, dNewT, dSetT, dLstRg, dPar3, dLcM, dAugL, dSetdT, dDispT, dIItemsT, dIValsT, rdDInP, dFld, dSetF, dMake, dIKeysT, rdIsC, dCntC, dTupC, dSlC, dRevC, dISeqX, dMeth, dMeth0, dSetM, dNewM, lnX_t, lnX_l, srX_t, dLamA, dLamB, gdName, gdTup, gdCons, gdNil, dstart, dwipe, dAug, rdInt, rdSub, rdLt, rdLe, rdGt, rdGe, rdFdiv, rdMod, rdPow, at0, at1, at2, i30, i31, i32, set0, set1, set2, MO.lst.injEq, gup_same, gup_gup, ad_ii, ad_ss, ad_tt, ad_ll, mu_ii, mu_li, mu_ti, ix_t, ix_l, ix_s, ix_r, ix_w, ln_t, ln_l, ln_s, ln_w, ln_r, sr_t, sr_l, sr_s, sr_r, sl_t, sl_l, sl_s, sl_r, sl_w, tu_t, tu_l, tu_r, li_t, li_l, li_r, lm_t, lm_l, mx2, mn2, ab1, in1, is2, rdIsB, rdNotB, rdIsN, rdNotN, TD.isNon, List.map_cons, List.map_nil, List.length_cons, List.length_nil, List.replicate_succ, List.replicate_zero, List.cons_append, List.nil_append, List.append_nil, Nat.zero_add, Nat.reduceAdd, Nat.reduceSub, Nat.sub_self, Nat.add_sub_cancel, List.getElem?_cons_zero, List.getElem?_cons_succ, List.getElem?_nil, List.set_cons_zero, List.set_cons_succ, List.set_nil, Option.some.injEq, D.int.injEq, D.bl.injEq, D.str.injEq, D.ref.injEq, D.ty.injEq, D.tup.injEq, D.lst.injEq, List.cons.injEq, and_true, true_and, ex_two, ex_two', exists_eq_left', exists_eq_left, exists_and_left, exists_and_right, exists_const, exists_eq_right, exists_eq_right', Bool.not_true, Bool.not_false, if_true, if_false, Bool.false_eq_true, reduceCtorEq, false_and, and_false, decide_true, decide_false]
        refine roll_of u5.2 (by omega) (by omega) (by omega) fun r2 G6 hr2 u6 => ?_
        try simp only [dRet, dRetN, dSeq, dAsg, dDrop, dIfS, dNext, dBreak, dCont, dPar, dSetL, dSetD, dFor, dVar, dC, dOp, dAndV, dOrV, dNotV, dAnd, dOr, dNot, dIf, dTest, dChain, dNil, dCons, dTup, dLst, dLstM, dStar, dNeg, dCB, dCall, dCallK, dMthT, dMth0, dLc, dYes, dISeq, dIStr, dIEnum, dIZip, dIRng1, dIRng2, dSl, dPart, dNoPart, dRaise, dDisp1, dNewD, dRevL, dRevT, dSortSet, dSortSetL, dIRng3, dGet2, dIKeys, dNewT, dSetT, dLstRg, dPar3, dLcM, dAugL, dSetdT, dDispT, dIItemsT, dIValsT, rdDInP, dFld, dSetF, dMake, dIKeysT, rdIsC, dCntC, dTupC, dSlC, dRevC, dISeqX, dMeth, dMeth0, dSetM, dNewM, lnX_t, lnX_l, srX_t, dLamA, dLamB, gdName, gdTup, gdCons, gdNil, dstart, dwipe, dAug, rdInt, rdSub, rdLt, rdLe, rdGt, rdGe, rdFdiv, rdMod, rdPow, at0, at1, at2, i30, i31, i32, set0, set1, set2, MO.lst.injEq, gup_same, gup_gup, ad_ii, ad_ss, ad_tt, ad_ll, mu_ii, mu_li, mu_ti, ix_t, ix_l, ix_s, ix_r, ix_w, ln_t, ln_l, ln_s, ln_w, ln_r, sr_t, sr_l, sr_s, sr_r, sl_t, sl_l, sl_s, sl_r, sl_w, tu_t, tu_l, tu_r, li_t, li_l, li_r, lm_t, lm_l, mx2, mn2, ab1, in1, is2, rdIsB, rdNotB, rdIsN, rdNotN, TD.isNon, List.map_cons, List.map_nil, List.length_cons, List.length_nil, List.replicate_succ, List.replicate_zero, List.cons_append, List.nil_append, List.append_nil, Nat.zero_add, Nat.reduceAdd, Nat.reduceSub, Nat.sub_self, Nat.add_sub_cancel, List.getElem?_cons_zero, List.getElem?_cons_succ, List.getElem?_nil, List.set_cons_zero, List.set_cons_succ, List.set_nil, Option.some.injEq, D.int.injEq, D.bl.injEq, D.str.injEq, D.ref.injEq, D.ty.injEq, D.tup.injEq, D.lst.injEq, List.cons.injEq, and_true, true_and, ex_two, ex_two', exists_eq_left', exists_eq_left, exists_and_left, exists_and_right, exists_const, exists_eq_right, exists_eq_right', Bool.not_true, Bool.not_false, if_true, if_false, Bool.false_eq_true, reduceCtorEq, false_and, and_false, decide_true, decide_false]
        refine ⟨sz _ (by omega), ?_⟩
        refine pick_of u6.2 (by omega) (by show 0 < 3; decide) (by show 3 < 1000000; decide) fun z hz G7 u7 => ?_
        obtain ⟨v, rfl, hv0, hv⟩ : ∃ v : Int, z = .int v ∧ 0 ≤ v ∧ v ≤ 1000 := by
          simp only [List.mem_cons, List.not_mem_nil, or_false] at hz
          rcases hz with rfl | rfl | rfl
          · exact ⟨_, rfl, by omega, by omega⟩
          · exact ⟨_, rfl, by omega, by omega⟩
          · exact ⟨_, rfl, by omega, by omega⟩
        try simp only [dRet, dRetN, dSeq, dAsg, dDrop, dIfS, dNext, dBreak, dCont, dPar, dSetL, dSetD, dFor, dVar, dC, dOp, dAndV, dOrV, dNotV, dAnd, dOr, dNot, dIf, dTest, dChain, dNil, dCons, dTup, dLst, dLstM, dStar, dNeg, dCB, dCall, dCallK, dMthT, dMth0, dLc, dYes, dISeq, dIStr, dIEnum, dIZip, dIRng1, dIRng2, dSl, dPart, dNoPart, dRaise, dDisp1, dNewD, dRevL, dRevT, dSortSet, dSortSetL, dIRng3, dGet2, dIKeys, dNewT, dSetT, dLstRg, dPar3, dLcM, dAugL, dSetdT, dDispT, dIItemsT, dIValsT, rdDInP, dFld, dSetF, dMake, dIKeysT, rdIsC, dCntC, dTupC, dSlC, dRevC, dISeqX, dMeth, dMeth0, dSetM, dNewM, lnX_t, lnX_l, srX_t, dLamA, dLamB, gdName, gdTup, gdCons, gdNil, dstart, dwipe, dAug, rdInt, rdSub, rdLt, rdLe, rdGt, rdGe, rdFdiv, rdMod, rdPow, at0, at1, at2, i30, i31, i32, set0, set1, set2, MO.lst.injEq, gup_same, gup_gup, ad_ii, ad_ss, ad_tt, ad_ll, mu_ii, mu_li, mu_ti, ix_t, ix_l, ix_s, ix_r, ix_w, ln_t, ln_l, ln_s, ln_w, ln_r, sr_t, sr_l, sr_s, sr_r, sl_t, sl_l, sl_s, sl_r, sl_w, tu_t, tu_l, tu_r, li_t, li_l, li_r, lm_t, lm_l, mx2, mn2, ab1, in1, is2, rdIsB, rdNotB, rdIsN, rdNotN, TD.isNon, List.map_cons, List.map_nil, List.length_cons, List.length_nil, List.replicate_succ, List.replicate_zero, List.cons_append, List.nil_append, List.append_nil, Nat.zero_add, Nat.reduceAdd, Nat.reduceSub, Nat.sub_self, Nat.add_sub_cancel, List.getElem?_cons_zero, List.getElem?_cons_succ, List.getElem?_nil, List.set_cons_zero, List.set_cons_succ, List.set_nil, Option.some.injEq, D.int.injEq, D.bl.injEq, D.str.injEq, D.ref.injEq, D.ty.injEq, D.tup.injEq, D.lst.injEq, List.cons.injEq, and_true, true_and, ex_two, ex_two', exists_eq_left', exists_eq_left, exists_and_left, exists_and_right, exists_const, exists_eq_right, exists_eq_right', Bool.not_true, Bool.not_false, if_true, if_false, Bool.false_eq_true, reduceCtorEq, false_and, and_false, decide_true, decide_false]
        refine hK2 _ _ ⟨row ++ [v], intsL_snoc row v, by rw [List.length_append, hl2]; rfl, fun x hx => ?_, (((u4.trans u5).trans u6).trans u7).mono (by omega)⟩
        rcases List.mem_append.mp hx with hx | hx
        · exact hb2 x hx
        · rw [List.mem_singleton.mp hx]; exact ⟨hv0, hv⟩
      · obtain ⟨row, rfl, hl2, hb2, u4⟩ := hJ
        rw [rngD_len, Nat.zero_add] at hl2 u4
        try simp only [dRet, dRetN, dSeq, dAsg, dDrop, dIfS, dNext, dBreak, dCont, dPar, dSetL, dSetD, dFor, dVar, dC, dOp, dAndV, dOrV, dNotV, dAnd, dOr, dNot, dIf, dTest, dChain, dNil, dCons, dTup, dLst, dLstM, dStar, dNeg, dCB, dCall, dCallK, dMthT, dMth0, dLc, dYes, dISeq, dIStr, dIEnum, dIZip, dIRng1, dIRng2, dSl, dPart, dNoPart, dRaise, dDisp1, dNewD, dRevL, dRevT, dSortSet, dSortSetL, dIRng3, dGet2, dIKeys, dNewT, dSetT, dLstRg, dPar3, dLcM, dAugL, dSetdT, dDispT, dIItemsT, dIValsT, rdDInP, dFld, dSetF, dMake, dIKeysT, rdIsC, dCntC, dTupC, dSlC, dRevC, dISeqX, dMeth, dMeth0, dSetM, dNewM, lnX_t, lnX_l, srX_t, dLamA, dLamB, gdName, gdTup, gdCons, gdNil, dstart, dwipe, dAug, rdInt, rdSub, rdLt, rdLe, rdGt, rdGe, rdFdiv, rdMod, rdPow, at0, at1, at2, i30, i31, i32, set0, set1, set2, MO.lst.injEq, gup_same, gup_gup, ad_ii, ad_ss, ad_tt, ad_ll, mu_ii, mu_li, mu_ti, ix_t, ix_l, ix_s, ix_r, ix_w, ln_t, ln_l, ln_s, ln_w, ln_r, sr_t, sr_l, sr_s, sr_r, sl_t, sl_l, sl_s, sl_r, sl_w, tu_t, tu_l, tu_r, li_t, li_l, li_r, lm_t, lm_l, mx2, mn2, ab1, in1, is2, rdIsB, rdNotB, rdIsN, rdNotN, TD.isNon, List.map_cons, List.map_nil, List.length_cons, List.length_nil, List.replicate_succ, List.replicate_zero, List.cons_append, List.nil_append, List.append_nil, Nat.zero_add, Nat.reduceAdd, Nat.reduceSub, Nat.sub_self, Nat.add_sub_cancel, List.getElem?_cons_zero, List.getElem?_cons_succ, List.getElem?_nil, List.set_cons_zero, List.set_cons_succ, List.set_nil, Option.some.injEq, D.int.injEq, D.bl.injEq, D.str.injEq, D.ref.injEq, D.ty.injEq, D.tup.injEq, D.lst.injEq, List.cons.injEq, and_true, true_and, ex_two, ex_two', exists_eq_left', exists_eq_left, exists_and_left, exists_and_right, exists_const, exists_eq_right, exists_eq_right', Bool.not_true, Bool.not_false, if_true, if_false, Bool.false_eq_true, reduceCtorEq, false_and, and_false, decide_true, decide_false]
        refine hK _ _ ⟨t ++ [row], tabL_snoc t row, by rw [List.length_append, hl]; rfl, fun j row' hj => ?_, u4.mono (by omega)⟩
        by_cases hji : j < i
        · rw [List.getElem?_append_left (by omega)] at hj
          exact hb j row' hj
        · have hj2 := (List.getElem?_eq_some_iff.mp hj).1
          rw [List.length_append, List.length_singleton] at hj2
          have e1 : j = i := by omega
          subst e1
          rw [List.getElem?_append_right (by omega), hl, Nat.sub_self] at hj
          cases hj
          exact ⟨hl2, hb2⟩
    · obtain ⟨t, rfl, hl, hb, u⟩ := hI
      rw [rngD_len, Nat.zero_add] at hl u
      try simp only [dRet, dRetN, dSeq, dAsg, dDrop, dIfS, dNext, dBreak, dCont, dPar, dSetL, dSetD, dFor, dVar, dC, dOp, dAndV, dOrV, dNotV, dAnd, dOr, dNot, dIf, dTest, dChain, dNil, dCons, dTup, dLst, dLstM, dStar, dNeg, dCB, dCall, dCallK, dMthT, dMth0, dLc, dYes, dISeq, dIStr, dIEnum, dIZip, dIRng1, dIRng2, dSl, dPart, dNoPart, dRaise, dDisp1, dNewD, dRevL, dRevT, dSortSet, dSortSetL, dIRng3, dGet2, dIKeys, dNewT, dSetT, dLstRg, dPar3, dLcM, dAugL, dSetdT, dDispT, dIItemsT, dIValsT, rdDInP, dFld, dSetF, dMake, dIKeysT, rdIsC, dCntC, dTupC, dSlC, dRevC, dISeqX, dMeth, dMeth0, dSetM, dNewM, lnX_t, lnX_l, srX_t, dLamA, dLamB, gdName, gdTup, gdCons, gdNil, dstart, dwipe, dAug, rdInt, rdSub, rdLt, rdLe, rdGt, rdGe, rdFdiv, rdMod, rdPow, at0, at1, at2, i30, i31, i32, set0, set1, set2, MO.lst.injEq, gup_same, gup_gup, ad_ii, ad_ss, ad_tt, ad_ll, mu_ii, mu_li, mu_ti, ix_t, ix_l, ix_s, ix_r, ix_w, ln_t, ln_l, ln_s, ln_w, ln_r, sr_t, sr_l, sr_s, sr_r, sl_t, sl_l, sl_s, sl_r, sl_w, tu_t, tu_l, tu_r, li_t, li_l, li_r, lm_t, lm_l, mx2, mn2, ab1, in1, is2, rdIsB, rdNotB, rdIsN, rdNotN, TD.isNon, List.map_cons, List.map_nil, List.length_cons, List.length_nil, List.replicate_succ, List.replicate_zero, List.cons_append, List.nil_append, List.append_nil, Nat.zero_add, Nat.reduceAdd, Nat.reduceSub, Nat.sub_self, Nat.add_sub_cancel, List.getElem?_cons_zero, List.getElem?_cons_succ, List.getElem?_nil, List.set_cons_zero, List.set_cons_succ, List.set_nil, Option.some.injEq, D.int.injEq, D.bl.injEq, D.str.injEq, D.ref.injEq, D.ty.injEq, D.tup.injEq, D.lst.injEq, List.cons.injEq, and_true, true_and, ex_two, ex_two', exists_eq_left', exists_eq_left, exists_and_left, exists_and_right, exists_const, exists_eq_right, exists_eq_right', Bool.not_true, Bool.not_false, if_true, if_false, Bool.false_eq_true, reduceCtorEq, false_and, and_false, decide_true, decide_false]
      refine q t G3 ⟨by omega, by omega, fun i row hi => by rw [hl]; exact (hb i row hi).1, fun row hrow => ?_⟩ (u.mono (by omega))
      obtain ⟨i, hi, e⟩ := List.mem_iff_getElem.mp hrow
      exact (hb i row (by rw [List.getElem?_eq_getElem hi, e])).2
  · exact h.elim

theorem deq_ii (a b : Int) : deq (.int a) (.int b) = (a == b) := by rw [deq]
theorem pur_int (i : Int) : Pur (.int i) := rfl

theorem deq_bb (a b : Bool) : deq (.bl a) (.bl b) = (a == b) := by rw [deq]
theorem pur_bl (b : Bool) : Pur (.bl b) := rfl
theorem deq_nil : deq (.lst []) (.lst []) = true := by simp [deq, deqs]
theorem filter_none {α : Type} (l : List α) : l.filter (fun _ => false) = [] := by simp

theorem and_sz {n : Nat} {p : Prop} (h : n ≤ 16777216) (q : p) : n ≤ sizeLine ∧ p := ⟨sz n h, q⟩

theorem pick1 {α : Type} (v : α) : pickK 0 1 [0] [] [v] = [v] := by simp [pickK]
theorem pick3 {α : Type} (u v w : α) : pickK 0 3 [2, 1, 0] [] [u, v, w] = [w, v, u] := by simp [pickK]

abbrev LE (Q : DK) (x : XD) : DEnds := { nx := fun _ G' => Q .non G', rt := Q, xx := fun _ => x }

end K00
/-! # texts, in plain Lean -/
namespace K00
open PySem L2 TD TL
def Okt (x : Str) : Prop := ∀ c ∈ TL.tl x, c < 1114112
theorem strOk0_of {x : Str} (h : Okt x) : strOk0 x = true := by
  unfold strOk0
  rw [← Array.all_toList, List.all_eq_true]
  intro c hc
  exact decide_eq_true (h c hc)
abbrev NL : Str := "\n"
abbrev SP : Str := " "
theorem tl_NL : TL.tl NL = [10] := by decide +kernel
theorem tl_SP : TL.tl SP = [32] := by decide +kernel
theorem tl_E : TL.tl ("" : Str) = [] := by decide +kernel
/-! ### join -/
theorem mem_joinL {S : List Nat} {c : Nat} : ∀ {ps : List (List Nat)}, c ∈ joinL S ps → c ∈ S ∨ ∃ p ∈ ps, c ∈ p
  | [], h => by cases h
  | [p], h => .inr ⟨p, List.mem_cons_self, h⟩
  | p :: q :: r, h => by
    have h : c ∈ p ++ (S ++ joinL S (q :: r)) := h
    rcases List.mem_append.mp h with h | h
    · exact .inr ⟨p, List.mem_cons_self, h⟩
    · rcases List.mem_append.mp h with h | h
      · exact .inl h
      · rcases mem_joinL h with h | ⟨p', hp, h⟩
        · exact .inl h
        · exact .inr ⟨p', List.mem_cons_of_mem _ hp, h⟩
def tot (xs : List Str) : Nat := (xs.map (·.length)).sum
theorem len_joinL {S : List Nat} : ∀ (ps : List (List Nat)), (joinL S ps).length ≤ (ps.map List.length).sum + ps.length * S.length
  | [] => Nat.zero_le _
  | [p] => by show p.length ≤ p.length + 0 + 1 * S.length; omega
  | p :: q :: r => by
    have ih := len_joinL (S := S) (q :: r)
    show (p ++ (S ++ joinL S (q :: r))).length ≤ p.length + ((q :: r).map List.length).sum + ((q :: r).length + 1) * S.length
    rw [List.length_append, List.length_append, Nat.add_mul]
    omega
theorem tl_joinT (y : Str) (ps : List Str) : TL.tl (Txt.join y ps) = joinL (TL.tl y) (ps.map TL.tl) := by rw [TL.join_eq, TL.tl_join]
theorem tot_tl (ps : List Str) : ((ps.map TL.tl).map List.length).sum = tot ps := by
  unfold tot
  rw [List.map_map]
  exact congrArg List.sum (List.map_congr_left fun x _ => (TL.len_tl x).symm)
theorem len_join (y : Str) (ps : List Str) : (Txt.join y ps).length ≤ tot ps + ps.length * y.length := by
  have h := len_joinL (S := TL.tl y) (ps.map TL.tl)
  rw [← tl_joinT, tot_tl, List.length_map, ← TL.len_tl, ← TL.len_tl] at h
  exact h
theorem okt_join {y : Str} {ps : List Str} (hy : Okt y) (h : ∀ p ∈ ps, Okt p) : Okt (Txt.join y ps) := by
  intro c hc
  rw [tl_joinT] at hc
  rcases mem_joinL hc with hc | ⟨p, hp, hc⟩
  · exact hy c hc
  · obtain ⟨q, hq, rfl⟩ := List.mem_map.mp hp
    exact h q hq c hc
/-! ### split -/
theorem spl_ne (S : List Nat) : ∀ (l : List Nat) (k : Nat) (acc : List Nat), 1 ≤ (spl S k acc l).length
  | [], k, acc => by rw [spl_nil]; exact Nat.le_refl _
  | c :: r, 0, acc => by
    unfold spl
    split
    · rw [List.length_cons]; omega
    · exact spl_ne S r 0 _
  | c :: r, k + 1, acc => by
    unfold spl
    exact spl_ne S r k acc
theorem spl_len (S : List Nat) : ∀ (l : List Nat) (k : Nat) (acc : List Nat), (spl S k acc l).length ≤ l.length + 1
  | [], k, acc => by rw [spl_nil]; exact Nat.le_refl _
  | c :: r, 0, acc => by
    unfold spl
    split
    · have := spl_len S r (S.length - 1) []
      rw [List.length_cons, List.length_cons]; omega
    · have := spl_len S r 0 (acc ++ [c])
      rw [List.length_cons]; omega
  | c :: r, k + 1, acc => by
    unfold spl
    have := spl_len S r k acc
    rw [List.length_cons]; omega
theorem spl_tot (S : List Nat) : ∀ (l : List Nat) (k : Nat) (acc : List Nat), ((spl S k acc l).map List.length).sum ≤ acc.length + l.length
  | [], k, acc => by rw [spl_nil]; show acc.length + 0 ≤ _; exact Nat.le_refl _
  | c :: r, 0, acc => by
    unfold spl
    split
    · have := spl_tot S r (S.length - 1) []
      rw [List.map_cons, List.sum_cons, List.length_cons]
      rw [List.length_nil] at this
      omega
    · have := spl_tot S r 0 (acc ++ [c])
      rw [List.length_append, List.length_singleton] at this
      rw [List.length_cons]; omega
  | c :: r, k + 1, acc => by
    unfold spl
    have := spl_tot S r k acc
    rw [List.length_cons]; omega
theorem spl_mem (S : List Nat) : ∀ (l : List Nat) (k : Nat) (acc : List Nat), ∀ p ∈ spl S k acc l, ∀ c ∈ p, c ∈ acc ∨ c ∈ l
  | [], k, acc, p, hp, c, hc => by
    rw [spl_nil] at hp
    rw [List.mem_singleton.mp hp] at hc
    exact .inl hc
  | d :: r, 0, acc, p, hp, c, hc => by
    unfold spl at hp
    split at hp
    · rcases List.mem_cons.mp hp with rfl | hp
      · exact .inl hc
      · rcases spl_mem S r _ [] p hp c hc with h | h
        · cases h
        · exact .inr (List.mem_cons_of_mem _ h)
    · rcases spl_mem S r 0 (acc ++ [d]) p hp c hc with h | h
      · rcases List.mem_append.mp h with h | h
        · exact .inl h
        · rw [List.mem_singleton.mp h]; exact .inr List.mem_cons_self
      · exact .inr (List.mem_cons_of_mem _ h)
  | d :: r, k + 1, acc, p, hp, c, hc => by
    unfold spl at hp
    rcases spl_mem S r k acc p hp c hc with h | h
    · exact .inl h
    · exact .inr (List.mem_cons_of_mem _ h)
structure Sep (y : Str) : Prop where
  one : y.length = 1
  ne : TL.tl y ≠ []
  plain : y.cps.all (· < 256) = true
theorem sep_NL : Sep NL := ⟨by decide +kernel, by rw [tl_NL]; exact List.cons_ne_nil _ _, by decide +kernel⟩
theorem sep_SP : Sep SP := ⟨by decide +kernel, by rw [tl_SP]; exact List.cons_ne_nil _ _, by decide +kernel⟩
theorem split_tl {x y : Str} (s : Sep y) : (Txt.split x y).map TL.tl = spl (TL.tl y) 0 [] (TL.tl x) := TL.split_spl x y s.ne (TL.kind_ok s.plain)
theorem split_pos {x y : Str} (s : Sep y) : 1 ≤ (Txt.split x y).length := by
  have h := spl_ne (TL.tl y) (TL.tl x) 0 []
  rw [← split_tl s, List.length_map] at h
  exact h
theorem split_len {x y : Str} (s : Sep y) : (Txt.split x y).length ≤ x.length + 1 := by
  have h := spl_len (TL.tl y) (TL.tl x) 0 []
  rw [← split_tl s, List.length_map, ← TL.len_tl] at h
  exact h
theorem split_tot {x y : Str} (s : Sep y) : tot (Txt.split x y) ≤ x.length := by
  have h := spl_tot (TL.tl y) (TL.tl x) 0 []
  rw [← split_tl s, tot_tl, List.length_nil, Nat.zero_add, ← TL.len_tl] at h
  exact h
theorem tot_mem {xs : List Str} {x : Str} (h : x ∈ xs) : x.length ≤ tot xs := by
  induction xs with
  | nil => cases h
  | cons y ys ih =>
    unfold tot at *
    rw [List.map_cons, List.sum_cons]
    rcases List.mem_cons.mp h with rfl | h
    · omega
    · have := ih h; omega
theorem split_part_len {x y p : Str} (s : Sep y) (h : p ∈ Txt.split x y) : p.length ≤ x.length := Nat.le_trans (tot_mem h) (split_tot s)
theorem split_okt {x y p : Str} (s : Sep y) (hx : Okt x) (h : p ∈ Txt.split x y) : Okt p := by
  intro c hc
  have hm : TL.tl p ∈ (Txt.split x y).map TL.tl := List.mem_map_of_mem h
  rw [split_tl s] at hm
  rcases spl_mem _ _ _ _ _ hm c hc with h | h
  · cases h
  · exact hx c h
theorem tot_append (a b : List Str) : tot (a ++ b) = tot a + tot b := by
  unfold tot
  rw [List.map_append, List.sum_append]
theorem tot_cutX (xs : List Str) (lo hi : Option Int) : tot (cutX xs lo hi) ≤ tot xs := by
  unfold cutX
  have a : ∀ (l : List Str) (n : Nat), tot (l.take n) ≤ tot l := fun l n => by
    have h := tot_append (l.take n) (l.drop n)
    rw [List.take_append_drop] at h
    omega
  have b : ∀ (l : List Str) (n : Nat), tot (l.drop n) ≤ tot l := fun l n => by
    have h := tot_append (l.take n) (l.drop n)
    rw [List.take_append_drop] at h
    omega
  exact Nat.le_trans (a _ _) (b _ _)
theorem len_cutX (xs : List Str) (lo hi : Option Int) : (cutX xs lo hi).length ≤ xs.length := by
  unfold cutX
  rw [List.length_take, List.length_drop]
  omega
theorem mem_cutX {xs : List Str} {lo hi : Option Int} {x : Str} (h : x ∈ cutX xs lo hi) : x ∈ xs := by
  unfold cutX at h
  exact List.mem_of_mem_drop (List.mem_of_mem_take h)
theorem tot_reverse (xs : List Str) : tot xs.reverse = tot xs := by
  unfold tot
  rw [List.map_reverse, List.sum_reverse]
theorem okt_append {a b : Str} (ha : Okt a) (hb : Okt b) : Okt (a ++ b) := by
  intro c hc
  rw [TL.tl_append] at hc
  rcases List.mem_append.mp hc with h | h
  · exact ha c h
  · exact hb c h
theorem len_append (a b : Str) : (a ++ b).length = a.length + b.length := by
  rw [TL.len_tl, TL.tl_append, List.length_append, ← TL.len_tl, ← TL.len_tl]
theorem okt_cutS {x : Str} {lo hi : Option Int} (h : Okt x) : Okt (cutS x lo hi) := fun c hc => h c (List.mem_of_mem_drop (List.mem_of_mem_take hc))
end K00
/-! # numbers and texts, in plain Lean -/
namespace K00
open PySem L2 TD TL
/-! ### digits -/
theorem mem_fig {c : Nat} : c ∈ ("0123456789" : Str).cps.toList ↔ 48 ≤ c ∧ c ≤ 57 := by
  have e : ("0123456789" : Str).cps.toList = [48, 49, 50, 51, 52, 53, 54, 55, 56, 57] := by decide +kernel
  rw [e]
  simp only [List.mem_cons, List.not_mem_nil, or_false]
  omega
theorem mem_five {c : Nat} : c ∈ ("01234" : Str).cps.toList ↔ 48 ≤ c ∧ c ≤ 52 := by
  have e : ("01234" : Str).cps.toList = [48, 49, 50, 51, 52] := by decide +kernel
  rw [e]
  simp only [List.mem_cons, List.not_mem_nil, or_false]
  omega
def AD (l : List Nat) : Prop := ∀ c ∈ l, 48 ≤ c ∧ c ≤ 57
instance (l : List Nat) : Decidable (AD l) := inferInstanceAs (Decidable (∀ c ∈ l, 48 ≤ c ∧ c ≤ 57))
abbrev val (l : List Nat) : Nat := NumText.digitsVal l
theorem val_snoc (l : List Nat) (c : Nat) : val (l ++ [c]) = val l * 10 + (c - 48) := by
  unfold val NumText.digitsVal
  rw [List.foldl_append] <;> rfl
theorem val_pos : ∀ (l : List Nat) (c : Nat), 49 ≤ c → AD (c :: l) → 1 ≤ val (c :: l) := by
  intro l
  induction hn : l.length generalizing l with
  | zero =>
    intro c hc _
    rw [List.length_eq_zero_iff.mp hn]
    show 1 ≤ 0 * 10 + (c - 48)
    omega
  | succ n ih =>
    intro c hc ha
    have hne : l ≠ [] := fun z => by rw [z] at hn; cases hn
    obtain ⟨m, d, rfl⟩ : ∃ m d, l = m ++ [d] := ⟨_, _, (List.dropLast_concat_getLast hne).symm⟩
    rw [List.length_append, List.length_singleton] at hn
    have h := ih m (by omega) c hc fun x hx => ha x (by
      rcases List.mem_cons.mp hx with rfl | hx
      · exact List.mem_cons_self
      · exact List.mem_cons_of_mem _ (List.mem_append_left _ hx))
    rw [← List.cons_append, val_snoc]
    omega
/-- the signs of a number begin with 0 for 0 alone -/
theorem numL_zero (n : Nat) : ∀ l, numL n = 48 :: l → n = 0 := by
  induction n using Nat.strongRecOn with
  | _ n ih =>
    intro l h
    by_cases hn : n < 10
    · rw [numL_lt hn] at h
      injection h with h _
      omega
    · rw [numL_step (by omega)] at h
      cases e : numL (n / 10) with
      | nil => exact absurd e (numL_ne _)
      | cons a r =>
        rw [e, List.cons_append] at h
        injection h with h1 _
        rw [h1] at e
        have := ih (n / 10) (by omega) r e
        omega
theorem num_back : ∀ (l : List Nat) (c : Nat), 49 ≤ c → AD (c :: l) → numL (val (c :: l)) = c :: l := by
  intro l
  induction hn : l.length generalizing l with
  | zero =>
    intro c hc ha
    have hb := ha c List.mem_cons_self
    rw [List.length_eq_zero_iff.mp hn]
    have e : val [c] = c - 48 := by show 0 * 10 + (c - 48) = c - 48; omega
    rw [e, numL_lt (by omega)]
    congr 1
    omega
  | succ n ih =>
    intro c hc ha
    have hne : l ≠ [] := fun z => by rw [z] at hn; cases hn
    obtain ⟨m, d, rfl⟩ : ∃ m d, l = m ++ [d] := ⟨_, _, (List.dropLast_concat_getLast hne).symm⟩
    rw [List.length_append, List.length_singleton] at hn
    have am : AD (c :: m) := fun x hx => ha x (by
      rcases List.mem_cons.mp hx with rfl | hx
      · exact List.mem_cons_self
      · exact List.mem_cons_of_mem _ (List.mem_append_left _ hx))
    have hd := ha d (List.mem_cons_of_mem _ (List.mem_append_right _ (List.mem_singleton.mpr rfl)))
    have h := ih m (by omega) c hc am
    have hp := val_pos m c hc am
    rw [← List.cons_append, val_snoc, numL_step (by omega)]
    have e1 : (val (c :: m) * 10 + (d - 48)) / 10 = val (c :: m) := by omega
    have e2 : 48 + (val (c :: m) * 10 + (d - 48)) % 10 = d := by omega
    rw [e1, e2, h]
theorem num_back_iff {l : List Nat} (h : AD l) (hne : l ≠ []) : numL (val l) = l ↔ ¬ (1 < l.length ∧ l[0]? = some 48) := by
  cases l with
  | nil => exact absurd rfl hne
  | cons c m =>
    have hc := h c List.mem_cons_self
    by_cases h49 : 49 ≤ c
    · refine ⟨fun _ z => ?_, fun _ => num_back m c h49 h⟩
      have := z.2
      simp at this
      omega
    · have e48 : c = 48 := by omega
      subst e48
      cases m with
      | nil => exact ⟨fun _ z => by simp at z, fun _ => by decide⟩
      | cons d r =>
        refine ⟨fun z => ?_, fun z => absurd ⟨by simp, rfl⟩ z⟩
        have h0 := numL_zero _ _ z
        rw [h0] at z
        have e : numL 0 = [48] := by decide
        rw [e] at z
        simp at z
/-! ### the words of a line -/
def badWord (w : Str) : Prop := w.length = 0 ∨ 4 < w.length ∨ ¬ AD (TL.tl w)
instance (w : Str) : Decidable (badWord w) := inferInstanceAs (Decidable (_ ∨ _ ∨ _))
def zeroHead (w : Str) : Prop := 1 < w.length ∧ (TL.tl w)[0]? = some 48
instance (w : Str) : Decidable (zeroHead w) := inferInstanceAs (Decidable (_ ∧ _))
def intOf (w : Str) : D := if badWord w ∨ zeroHead w then .non else .int (val (TL.tl w) : Nat)
def numOf (w : Str) : Int := if badWord w ∨ zeroHead w then -1 else (val (TL.tl w) : Nat)
theorem int_num_in (w : Str) : isIn (intOf w) 0 1000 = (decide (0 ≤ numOf w) && decide (numOf w ≤ 1000)) := by
  unfold intOf numOf
  split
  · rfl
  · rfl
theorem int_of_num {w : Str} (h : 0 ≤ numOf w) : intOf w = .int (numOf w) := by
  unfold intOf numOf at *
  split
  · rename_i c
    rw [if_pos c] at h
    omega
  · rfl
theorem word_int {w : Str} (h : ¬ badWord w) : PySem.intText? w = some ((val (TL.tl w) : Nat) : Int) := by
  unfold badWord at h
  have ha : AD (TL.tl w) := Classical.not_not.mp fun z => h (.inr (.inr z))
  exact PySem.intText_digits ha (fun z => h (.inl (by rw [TL.len_tl, show TL.tl w = [] from z] <;> rfl))) (by have : ¬ 4 < w.length := fun z => h (.inr (.inl z)); omega)
theorem str_int (n : Nat) : TL.tl ((toString ((n : Nat) : Int) : String) : Str) = numL n := TL.tl_num n
theorem word_back {w : Str} (h : ¬ badWord w) : decide (((toString ((val (TL.tl w) : Nat) : Int) : String) : Str) = w) = !decide (zeroHead w) := by
  unfold badWord at h
  have ha : AD (TL.tl w) := Classical.not_not.mp fun z => h (.inr (.inr z))
  have hne : TL.tl w ≠ [] := fun z => h (.inl (by rw [TL.len_tl, z] <;> rfl))
  have k := num_back_iff ha hne
  by_cases hz : zeroHead w
  · rw [decide_eq_true hz]
    refine decide_eq_false fun e => ?_
    have := congrArg TL.tl e
    rw [str_int] at this
    exact k.mp this ⟨by rw [← TL.len_tl]; exact hz.1, hz.2⟩
  · rw [decide_eq_false hz]
    refine decide_eq_true (TL.ext_tl ?_)
    rw [str_int]
    exact k.mpr fun z => hz ⟨by rw [TL.len_tl]; exact z.1, z.2⟩
theorem num_tl {n : Nat} (h : n ≤ 1000) : (numL n).length ≤ 4 := TL.numL_len (by omega) (by omega)
theorem num_str {n : Nat} (h : n ≤ 1000) : numOf ((toString ((n : Nat) : Int) : String) : Str) = (n : Int) := by
  have e := str_int n
  have hl : ((toString ((n : Nat) : Int) : String) : Str).length = (numL n).length := by rw [TL.len_tl, e]
  have b1 : ¬ badWord ((toString ((n : Nat) : Int) : String) : Str) := by
    unfold badWord
    rw [hl, e]
    have h4 := num_tl h
    have hp := List.length_pos_iff.mpr (numL_ne n)
    rintro (z | z | z)
    · omega
    · omega
    · exact z (TL.numL_digits n)
  have b2 : ¬ zeroHead ((toString ((n : Nat) : Int) : String) : Str) := by
    unfold zeroHead
    rw [hl, e]
    have k := (num_back_iff (l := numL n) (TL.numL_digits n) (numL_ne n)).mp (by rw [show val (numL n) = n from TL.numL_val n])
    exact k
  unfold numOf
  rw [if_neg (by rintro (z | z); exact b1 z; exact b2 z), e, show val (numL n) = n from TL.numL_val n]
end K00
/-! # orders and tables as texts, in plain Lean -/
namespace K00
open PySem L2 TD TL
def stI (x : Int) : Str := ((toString x : String) : Str)
theorem stI_nat {x : Int} (h : 0 ≤ x) : TL.tl (stI x) = numL x.toNat := by
  obtain ⟨n, rfl⟩ := Int.eq_ofNat_of_zero_le h
  exact str_int n
theorem okt_stI {x : Int} (h : 0 ≤ x) : Okt (stI x) := by
  intro c hc
  rw [stI_nat h] at hc
  have := TL.numL_digits _ c hc
  omega
theorem len_stI {x : Int} (h : 0 ≤ x) (h2 : x ≤ 1000) : (stI x).length ≤ 4 := by
  rw [TL.len_tl, stI_nat h]
  exact num_tl (by omega)
theorem free_stI {x : Int} {s : Nat} (h : 0 ≤ x) (hs : s < 48 ∨ 57 < s) : s ∉ TL.tl (stI x) := by
  rw [stI_nat h]
  exact TL.numL_free hs
theorem numOf_stI {x : Int} (h : 0 ≤ x) (h2 : x ≤ 1000) : numOf (stI x) = x := by
  obtain ⟨n, rfl⟩ := Int.eq_ofNat_of_zero_le h
  exact num_str (by omega)
/-! ### orders -/
def ordT (ns : List Int) : Str := Txt.join "" (ns.map stI)
def OrdOK (w : Str) : Prop := w.length ≤ 6 ∧ ∀ c ∈ TL.tl w, 48 ≤ c ∧ c ≤ 52
instance (w : Str) : Decidable (OrdOK w) := inferInstanceAs (Decidable (_ ∧ _))
def ordV (w : Str) : List Int := (TL.tl w).map fun (c : Nat) => (c : Int) - 48
theorem joinL_one {α : Type} (g : α → Nat) : ∀ l : List α, joinL [] (l.map fun x => [g x]) = l.map g
  | [] => rfl
  | [_] => rfl
  | x :: y :: r => by
    show [g x] ++ ([] ++ joinL [] ((y :: r).map fun x => [g x])) = _
    rw [joinL_one g (y :: r)] <;> rfl
theorem ordT_tl {ns : List Int} (h : ∀ x ∈ ns, 0 ≤ x ∧ x ≤ 4) : TL.tl (ordT ns) = ns.map fun x => 48 + x.toNat := by
  unfold ordT
  rw [tl_joinT, tl_E, List.map_map, ← joinL_one]
  refine congrArg _ (List.map_congr_left fun x hx => ?_)
  have hb := h x hx
  show TL.tl (stI x) = _
  rw [stI_nat hb.1, numL_lt (by omega)]
theorem ord_ok {ns : List Int} (hl : ns.length ≤ 6) (h : ∀ x ∈ ns, 0 ≤ x ∧ x ≤ 4) : OrdOK (ordT ns) := by
  refine ⟨by rw [TL.len_tl, ordT_tl h, List.length_map]; exact hl, fun c hc => ?_⟩
  rw [ordT_tl h] at hc
  obtain ⟨x, hx, rfl⟩ := List.mem_map.mp hc
  have := h x hx
  omega
theorem ord_back {ns : List Int} (h : ∀ x ∈ ns, 0 ≤ x ∧ x ≤ 4) : ordV (ordT ns) = ns := by
  unfold ordV
  rw [ordT_tl h, List.map_map]
  have : ∀ l : List Int, (∀ x ∈ l, 0 ≤ x ∧ x ≤ 4) → l.map ((fun c : Nat => (c : Int) - 48) ∘ fun x : Int => 48 + x.toNat) = l := by
    intro l
    induction l with
    | nil => intro _; rfl
    | cons a r ih =>
      intro hl
      rw [List.map_cons, ih fun x hx => hl x (List.mem_cons_of_mem _ hx)]
      have hb := hl a List.mem_cons_self
      congr 1
      show ((48 + a.toNat : Nat) : Int) - 48 = a
      omega
  exact this ns h
theorem ordT_okt {ns : List Int} (h : ∀ x ∈ ns, 0 ≤ x ∧ x ≤ 4) : Okt (ordT ns) := by
  intro c hc
  rw [ordT_tl h] at hc
  obtain ⟨x, hx, rfl⟩ := List.mem_map.mp hc
  have := h x hx
  omega
theorem ordV_in {w : Str} (h : OrdOK w) : (ordV w).length ≤ 6 ∧ ∀ x ∈ ordV w, 0 ≤ x ∧ x ≤ 4 := by
  refine ⟨by unfold ordV; rw [List.length_map, ← TL.len_tl]; exact h.1, fun x hx => ?_⟩
  obtain ⟨c, hc, rfl⟩ := List.mem_map.mp hx
  have := h.2 c hc
  omega
/-! ### tables -/
def rowT (r : List Int) : Str := Txt.join SP (r.map stI)
def tabT (t : Tab) : Str := Txt.join NL (t.map rowT)
def nums (line : Str) : List Int := (Txt.split line SP).map numOf
def LineBad (many i : Nat) (line : Str) : Prop := many ≤ i ∨ 7 < many ∨ (nums line).length ≠ many - i ∨ ¬ ∀ x ∈ nums line, 0 ≤ x ∧ x ≤ 1000
instance (many i : Nat) (line : Str) : Decidable (LineBad many i line) := inferInstanceAs (Decidable (_ ∨ _ ∨ _ ∨ _))
inductive TR where
  | bad (k : Nat)
  | ok (t : Tab)
def go (many : Nat) : Nat → List Str → Tab → TR
  | _, [], acc => if acc.length < many then .bad (acc.length + 1) else .ok acc
  | i, l :: ls, acc => if LineBad many i l then .bad (i + 1) else go many (i + 1) ls (acc ++ [nums l])
def manyOf (w : Str) : Nat := (Txt.split ((Txt.split w NL).getD 0 Str.empty) SP).length
def tblR (w : Str) : TR := go (manyOf w) 0 (Txt.split w NL) []
structure Rows (many : Nat) (acc : Tab) : Prop where
  row : ∀ (j : Nat) (r : List Int), acc[j]? = some r → r.length = many - j
  bnd : ∀ r ∈ acc, ∀ x ∈ r, 0 ≤ x ∧ x ≤ 1000
theorem Rows.nil {many : Nat} : Rows many [] := ⟨fun j r h => by simp at h, fun r h => by cases h⟩
theorem Rows.snoc {many i : Nat} {acc : Tab} {l : Str} (h : Rows many acc) (hi : acc.length = i) (hb : ¬ LineBad many i l) : Rows many (acc ++ [nums l]) := by
  unfold LineBad at hb
  refine ⟨fun j r hj => ?_, fun r hr => ?_⟩
  · by_cases hji : j < acc.length
    · rw [List.getElem?_append_left hji] at hj
      exact h.row j r hj
    · have hj2 := (List.getElem?_eq_some_iff.mp hj).1
      rw [List.length_append, List.length_singleton] at hj2
      have e1 : j = i := by omega
      subst e1
      rw [List.getElem?_append_right (by omega), hi, Nat.sub_self] at hj
      cases hj
      exact Classical.not_not.mp fun z => hb (.inr (.inr (.inl z)))
  · rcases List.mem_append.mp hr with hr | hr
    · exact h.bnd r hr
    · rw [List.mem_singleton.mp hr]
      exact Classical.not_not.mp fun z => hb (.inr (.inr (.inr z)))
theorem go_ok {many : Nat} {t : Tab} : ∀ (ls : List Str) (i : Nat) (acc : Tab), go many i ls acc = .ok t → acc.length = i → i ≤ many → Rows many acc → (ls ≠ [] ∨ many ≤ 7) → t.length = many ∧ many ≤ 7 ∧ Rows many t
  | [], i, acc, h, hl, hi, hr, hm => by
    unfold go at h
    split at h
    · cases h
    · cases h
      rcases hm with hm | hm
      · exact absurd rfl hm
      · exact ⟨by omega, hm, hr⟩
  | l :: ls, i, acc, h, hl, hi, hr, hm => by
    unfold go at h
    split at h
    · cases h
    · rename_i hb
      have hb2 := hb
      unfold LineBad at hb2
      exact go_ok ls (i + 1) _ h (by rw [List.length_append, hl] <;> rfl) (by omega) (hr.snoc hl hb) (.inr (by omega))
theorem many_pos (w : Str) : 1 ≤ manyOf w := split_pos sep_SP
theorem lines_ne (w : Str) : Txt.split w NL ≠ [] := fun z => by
  have := split_pos (x := w) sep_NL
  rw [z] at this
  simp at this
theorem tblR_wt {w : Str} {t : Tab} (h : tblR w = .ok t) : WT t := by
  obtain ⟨h1, h2, h3⟩ := go_ok _ _ _ h rfl (Nat.zero_le _) Rows.nil (.inl (lines_ne w))
  have := many_pos w
  exact ⟨by omega, by omega, by rw [h1]; exact h3.row, h3.bnd⟩
/-! ### the read-back -/
theorem split_row {r : List Int} (hne : r ≠ []) (h : ∀ x ∈ r, 0 ≤ x ∧ x ≤ 1000) : Txt.split (rowT r) SP = r.map stI := by
  unfold rowT
  refine TL.split_join (s := 32) (S := []) tl_SP sep_SP.plain (fun z => hne (List.map_eq_nil_iff.mp z)) fun p hp => ?_
  obtain ⟨x, hx, rfl⟩ := List.mem_map.mp hp
  exact free_stI (h x hx).1 (by omega)
theorem nums_row {r : List Int} (hne : r ≠ []) (h : ∀ x ∈ r, 0 ≤ x ∧ x ≤ 1000) : nums (rowT r) = r := by
  unfold nums
  rw [split_row hne h, List.map_map]
  have : ∀ l : List Int, (∀ x ∈ l, 0 ≤ x ∧ x ≤ 1000) → l.map (numOf ∘ stI) = l := by
    intro l
    induction l with
    | nil => intro _; rfl
    | cons a r ih =>
      intro hl
      rw [List.map_cons, ih fun x hx => hl x (List.mem_cons_of_mem _ hx)]
      have hb := hl a List.mem_cons_self
      congr 1
      exact numOf_stI hb.1 hb.2
  exact this r h
theorem row_free {r : List Int} (h : ∀ x ∈ r, 0 ≤ x ∧ x ≤ 1000) : 10 ∉ TL.tl (rowT r) := by
  unfold rowT
  rw [tl_joinT, tl_SP]
  intro z
  rcases mem_joinL z with z | ⟨p, hp, z⟩
  · simp at z
  · obtain ⟨q, hq, rfl⟩ := List.mem_map.mp hp
    obtain ⟨x, hx, rfl⟩ := List.mem_map.mp hq
    exact free_stI (h x hx).1 (by omega) z
theorem okt_SP : Okt SP := fun c hc => by
  rw [tl_SP] at hc
  rw [List.mem_singleton.mp hc]
  omega
theorem okt_NL : Okt NL := fun c hc => by
  rw [tl_NL] at hc
  rw [List.mem_singleton.mp hc]
  omega
theorem row_okt {r : List Int} (h : ∀ x ∈ r, 0 ≤ x ∧ x ≤ 1000) : Okt (rowT r) := okt_join okt_SP fun p hp => by
  obtain ⟨x, hx, rfl⟩ := List.mem_map.mp hp
  exact okt_stI (h x hx).1
theorem tab_okt {t : Tab} (w : WT t) : Okt (tabT t) := okt_join okt_NL fun p hp => by
  obtain ⟨r, hr, rfl⟩ := List.mem_map.mp hp
  exact row_okt (w.bnd r hr)
theorem tot_sts : ∀ {r : List Int}, (∀ x ∈ r, 0 ≤ x ∧ x ≤ 1000) → tot (r.map stI) ≤ 4 * r.length
  | [], _ => Nat.le_refl _
  | a :: r, h => by
    have ih := tot_sts (r := r) fun x hx => h x (List.mem_cons_of_mem _ hx)
    have ha := h a List.mem_cons_self
    have hl := len_stI ha.1 ha.2
    unfold tot at *
    rw [List.map_cons, List.map_cons, List.sum_cons, List.length_cons]
    omega
theorem len_row {r : List Int} (h : ∀ x ∈ r, 0 ≤ x ∧ x ≤ 1000) : (rowT r).length ≤ 5 * r.length := by
  have h1 := len_join SP (r.map stI)
  have h2 := tot_sts h
  rw [List.length_map, sep_SP.one] at h1
  unfold rowT
  omega
def tri : Nat → Nat
  | 0 => 0
  | n + 1 => (n + 1) + tri n
theorem tri_mono {a b : Nat} (h : a ≤ b) : tri a ≤ tri b := by
  induction b with
  | zero => rw [Nat.le_zero.mp h]; exact Nat.le_refl _
  | succ b ih =>
    rcases Nat.lt_or_ge a (b + 1) with h1 | h1
    · have := ih (by omega)
      show tri a ≤ (b + 1) + tri b
      omega
    · rw [show a = b + 1 by omega]; exact Nat.le_refl _
theorem tot_rows : ∀ {t : Tab} {n : Nat}, (∀ (j : Nat) (r : List Int), t[j]? = some r → r.length ≤ n - j) → (∀ r ∈ t, ∀ x ∈ r, 0 ≤ x ∧ x ≤ 1000) → tot (t.map rowT) ≤ 5 * tri n
  | [], _, _, _ => Nat.zero_le _
  | r :: rs, n, h, hb => by
    have h0 := h 0 r rfl
    have hl := len_row (hb r List.mem_cons_self)
    cases n with
    | zero =>
      have ih := tot_rows (t := rs) (n := 0) (fun j r' hj => by have := h (j + 1) r' (by simpa using hj); omega) (fun r' hr => hb r' (List.mem_cons_of_mem _ hr))
      unfold tot at *
      rw [List.map_cons, List.map_cons, List.sum_cons]
      omega
    | succ n =>
      have ih := tot_rows (t := rs) (n := n) (fun j r' hj => by have := h (j + 1) r' (by simpa using hj); omega) (fun r' hr => hb r' (List.mem_cons_of_mem _ hr))
      unfold tot at *
      rw [List.map_cons, List.map_cons, List.sum_cons]
      show _ ≤ 5 * ((n + 1) + tri n)
      omega
theorem len_tab {t : Tab} (w : WT t) : (tabT t).length ≤ 147 := by
  have h1 := len_join NL (t.map rowT)
  have h2 := tot_rows (t := t) (n := t.length) (fun j r hj => Nat.le_of_eq (w.row j r hj)) w.bnd
  have h3 := tri_mono w.n7
  have h4 : tri 7 = 28 := by decide
  have := w.n7
  rw [List.length_map, sep_NL.one] at h1
  unfold tabT
  omega
theorem go_rows {many : Nat} (hm : many ≤ 7) : ∀ (rows : Tab) (i : Nat) (acc : Tab), acc.length = i → i + rows.length = many → (∀ (j : Nat) (r : List Int), rows[j]? = some r → r.length = many - (i + j)) → (∀ r ∈ rows, ∀ x ∈ r, 0 ≤ x ∧ x ≤ 1000) →
    go many i (rows.map rowT) acc = .ok (acc ++ rows)
  | [], i, acc, hl, hn, _, _ => by
    rw [List.length_nil] at hn
    rw [List.map_nil, List.append_nil]
    unfold go
    rw [if_neg (by omega)]
  | r :: rs, i, acc, hl, hn, hr, hb => by
    rw [List.length_cons] at hn
    have h0 := hr 0 r rfl
    have hne : r ≠ [] := fun z => by rw [z] at h0; simp at h0; omega
    have en := nums_row hne (hb r List.mem_cons_self)
    rw [List.map_cons]
    unfold go
    have nb : ¬ LineBad many i (rowT r) := by
      unfold LineBad
      rw [en]
      rintro (z | z | z | z)
      · omega
      · omega
      · exact z (by simpa using h0)
      · exact z (hb r List.mem_cons_self)
    rw [if_neg nb, en, go_rows hm rs (i + 1) (acc ++ [r]) (by rw [List.length_append, hl] <;> rfl) (by omega) (fun j r' hj => by have := hr (j + 1) r' (by simpa using hj); omega) (fun r' hr' => hb r' (List.mem_cons_of_mem _ hr')), List.append_assoc] <;> rfl
theorem tbl_back {t : Tab} (w : WT t) : tblR (tabT t) = .ok t := by
  have hne : t ≠ [] := fun z => by have := w.n1; rw [z] at this; simp at this
  have es : Txt.split (tabT t) NL = t.map rowT := by
    unfold tabT
    refine TL.split_join (s := 10) (S := []) tl_NL sep_NL.plain (fun z => hne (List.map_eq_nil_iff.mp z)) fun p hp => ?_
    obtain ⟨r, hr, rfl⟩ := List.mem_map.mp hp
    exact row_free (w.bnd r hr)
  have em : manyOf (tabT t) = t.length := by
    unfold manyOf
    rw [es]
    cases t with
    | nil => exact absurd rfl hne
    | cons r rs =>
      have h0 := w.row 0 r rfl
      have hr : r ≠ [] := fun z => by rw [z] at h0; simp at h0
      show (Txt.split (rowT r) SP).length = _
      rw [split_row hr (w.bnd r List.mem_cons_self), List.length_map, h0, Nat.sub_zero]
  unfold tblR
  rw [em, es, go_rows w.n7 t 0 [] rfl (by omega) (fun j r hj => by rw [Nat.zero_add]; exact w.row j r hj) w.bnd, List.nil_append]
end K00
namespace K00
open PySem L2 TD
theorem m_str : ("str" ∈ tyNames) = True := by simp [tyNames]
abbrev BadT (A : Ad) (x : XD) (G : GH) (k : Int) : Prop := x A.cTxt [("line", .int k)] G
def NotS (z : D) : Prop := Pur z ∧ tyP z ≠ "str"
def sp_demand_text (A : Ad) : SpD := fun zs G Q x => match zs with
  | [.str w] => w.length ≤ sizeLine ∧ (w.length ≤ 1000 → Q .non G) ∧ (¬ w.length ≤ 1000 → BadT A x G 0)
  | [z] => NotS z ∧ BadT A x G 0
  | _ => False
theorem len_demand_text {A : Ad} {zs : List D} {G : GH} {Q : DK} {x : XD} (h : sp_demand_text A zs G Q x) : zs.length = 1 := by
  unfold sp_demand_text at h
  split at h <;> first | rfl | exact h.elim
def ds_demand_text (A : Ad) : DS := dIfS (dOr (dNot (dTest (dCB rdIsi (dCons (dVar 0) (dCons (dC (.ty "str")) dNil))))) (dTest (dOp rdGt (dCB rdLen (dCons (dVar 0) dNil)) (dC (.int 1000))))) (dRaise A.cTxt (ErrX.EF.fld .line) (dC (.int 0))) dNext
def N_demand_text : List PySem.Str := ["text"]
theorem read_demand_text {A : Ad} {zs : List D} {G : GH} {Q : DK} {x : XD} (h : sp_demand_text A zs G Q x) : ds_demand_text A { nx := fun _ G' => Q .non G', rt := Q, xx := fun _ => x } (dstart N_demand_text zs) G := by
  unfold sp_demand_text at h
  split at h
  · rename_i w
    obtain ⟨hl, h1, h2⟩ := h
    unfold N_demand_text ds_demand_text
    simp only [dRet, dRetN, dSeq, dAsg, dDrop, dIfS, dNext, dBreak, dCont, dPar, dSetL, dSetD, dFor, dVar, dC, dOp, dAndV, dOrV, dNotV, dAnd, dOr, dNot, dIf, dTest, dChain, dNil, dCons, dTup, dLst, dLstM, dStar, dNeg, dCB, dCall, dCallK, dMthT, dMth0, dLc, dYes, dISeq, dIStr, dIEnum, dIZip, dIRng1, dIRng2, dSl, dPart, dNoPart, dRaise, dDisp1, dNewD, dRevL, dRevT, dSortSet, dSortSetL, dIRng3, dGet2, dIKeys, dNewT, dSetT, dLstRg, dPar3, dLcM, dAugL, dSetdT, dDispT, dIItemsT, dIValsT, rdDInP, dFld, dSetF, dMake, dIKeysT, rdIsC, dCntC, dTupC, dSlC, dRevC, dISeqX, dMeth, dMeth0, dSetM, dNewM, lnX_t, lnX_l, srX_t, dLamA, dLamB, gdName, gdTup, gdCons, gdNil, dstart, dwipe, dAug, rdInt, rdSub, rdLt, rdLe, rdGt, rdGe, rdFdiv, rdMod, rdPow, at0, at1, at2, i30, i31, i32, set0, set1, set2, MO.lst.injEq, gup_same, gup_gup, ad_ii, ad_ss, ad_tt, ad_ll, mu_ii, mu_li, mu_ti, ix_t, ix_l, ix_s, ix_r, ix_w, ln_t, ln_l, ln_s, ln_w, ln_r, sr_t, sr_l, sr_s, sr_r, sl_t, sl_l, sl_s, sl_r, sl_w, tu_t, tu_l, tu_r, li_t, li_l, li_r, lm_t, lm_l, mx2, mn2, ab1, in1, is2, rdIsB, rdNotB, rdIsN, rdNotN, TD.isNon, List.map_cons, List.map_nil, List.length_cons, List.length_nil, List.replicate_succ, List.replicate_zero, List.cons_append, List.nil_append, List.append_nil, Nat.zero_add, Nat.reduceAdd, Nat.reduceSub, Nat.sub_self, Nat.add_sub_cancel, List.getElem?_cons_zero, List.getElem?_cons_succ, List.getElem?_nil, List.set_cons_zero, List.set_cons_succ, List.set_nil, Option.some.injEq, D.int.injEq, D.bl.injEq, D.str.injEq, D.ref.injEq, D.ty.injEq, D.tup.injEq, D.lst.injEq, List.cons.injEq, and_true, true_and, ex_two, ex_two', exists_eq_left', exists_eq_left, exists_and_left, exists_and_right, exists_const, exists_eq_right, exists_eq_right', Bool.not_true, Bool.not_false, if_true, if_false, Bool.false_eq_true, reduceCtorEq, false_and, and_false, decide_true, decide_false, m_str, tyD, isiB, beq_self_eq_true, Bool.true_or]
    refine ⟨hl, ?_⟩
    by_cases c : w.length ≤ 1000
    · have e : ¬ (1000 : Int) < (w.length : Int) := by omega
      simp only [e, decide_false, Bool.false_eq_true, if_false]
      exact h1 c
    · have e : (1000 : Int) < (w.length : Int) := by omega
      simp only [e, decide_true, if_true]
      exact h2 c
  · rename_i z _
    obtain ⟨⟨hp, hs⟩, q⟩ := h
    unfold N_demand_text ds_demand_text
    have e : isiB (tyP z) "str" = false := by
      cases z <;> first | rfl | exact absurd rfl hs
    simp only [dRet, dRetN, dSeq, dAsg, dDrop, dIfS, dNext, dBreak, dCont, dPar, dSetL, dSetD, dFor, dVar, dC, dOp, dAndV, dOrV, dNotV, dAnd, dOr, dNot, dIf, dTest, dChain, dNil, dCons, dTup, dLst, dLstM, dStar, dNeg, dCB, dCall, dCallK, dMthT, dMth0, dLc, dYes, dISeq, dIStr, dIEnum, dIZip, dIRng1, dIRng2, dSl, dPart, dNoPart, dRaise, dDisp1, dNewD, dRevL, dRevT, dSortSet, dSortSetL, dIRng3, dGet2, dIKeys, dNewT, dSetT, dLstRg, dPar3, dLcM, dAugL, dSetdT, dDispT, dIItemsT, dIValsT, rdDInP, dFld, dSetF, dMake, dIKeysT, rdIsC, dCntC, dTupC, dSlC, dRevC, dISeqX, dMeth, dMeth0, dSetM, dNewM, lnX_t, lnX_l, srX_t, dLamA, dLamB, gdName, gdTup, gdCons, gdNil, dstart, dwipe, dAug, rdInt, rdSub, rdLt, rdLe, rdGt, rdGe, rdFdiv, rdMod, rdPow, at0, at1, at2, i30, i31, i32, set0, set1, set2, MO.lst.injEq, gup_same, gup_gup, ad_ii, ad_ss, ad_tt, ad_ll, mu_ii, mu_li, mu_ti, ix_t, ix_l, ix_s, ix_r, ix_w, ln_t, ln_l, ln_s, ln_w, ln_r, sr_t, sr_l, sr_s, sr_r, sl_t, sl_l, sl_s, sl_r, sl_w, tu_t, tu_l, tu_r, li_t, li_l, li_r, lm_t, lm_l, mx2, mn2, ab1, in1, is2, rdIsB, rdNotB, rdIsN, rdNotN, TD.isNon, List.map_cons, List.map_nil, List.length_cons, List.length_nil, List.replicate_succ, List.replicate_zero, List.cons_append, List.nil_append, List.append_nil, Nat.zero_add, Nat.reduceAdd, Nat.reduceSub, Nat.sub_self, Nat.add_sub_cancel, List.getElem?_cons_zero, List.getElem?_cons_succ, List.getElem?_nil, List.set_cons_zero, List.set_cons_succ, List.set_nil, Option.some.injEq, D.int.injEq, D.bl.injEq, D.str.injEq, D.ref.injEq, D.ty.injEq, D.tup.injEq, D.lst.injEq, List.cons.injEq, and_true, true_and, ex_two, ex_two', exists_eq_left', exists_eq_left, exists_and_left, exists_and_right, exists_const, exists_eq_right, exists_eq_right', Bool.not_true, Bool.not_false, if_true, if_false, Bool.false_eq_true, reduceCtorEq, false_and, and_false, decide_true, decide_false, tyD_pur hp, m_str, e]
    exact q
  · exact h.elim
/-! ### orders -/
def sp_write_order (A : Ad) : SpD := fun zs G Q x => match zs with
  | [v] => Pur v ∧ (areIn v 0 6 0 4 = false → x A.cBad [("name", .str "order")] G) ∧ (∀ ns, v = intsD ns → ns.length ≤ 6 → (∀ y ∈ ns, 0 ≤ y ∧ y ≤ 4) → Q (.str (ordT ns)) G)
  | _ => False
theorem len_write_order {A : Ad} {zs : List D} {G : GH} {Q : DK} {x : XD} (h : sp_write_order A zs G Q x) : zs.length = 1 := by
  unfold sp_write_order at h
  split at h <;> first | rfl | exact h.elim
def ds_write_order (A : Ad) : DS := dSeq (dDrop (dCall (sp_demand A) (dCons (dCall (sp_are_in A) (dCons (dVar 0) (dCons (dC (.int 0)) (dCons (dC (.int 6)) (dCons (dC (.int 0)) (dCons (dOp rdSub (dC (.int 5)) (dC (.int 1))) dNil)))))) (dCons (dC (.str "order")) dNil)))) (dRet (dMthT "str" rdJoin (dC (.str "")) (dCons (dLc (dISeq (dVar 0)) (gdName 1) dYes (dCB rdStrI (dCons (dVar 1) dNil)) [1]) dNil)))
def N_write_order : List PySem.Str := ["order", "kind"]
theorem log_small {i : Int} (h0 : 0 ≤ i) (h : i ≤ 1000) : i.natAbs.log2 < 1920 := by
  have h1 : i.natAbs ≤ 1000 := by omega
  have h2 : i.natAbs.log2 ≤ i.natAbs := Nat.log2_le_self _
  omega
theorem read_write_order {A : Ad} {zs : List D} {G : GH} {Q : DK} {x : XD} (h : sp_write_order A zs G Q x) : ds_write_order A { nx := fun _ G' => Q .non G', rt := Q, xx := fun _ => x } (dstart N_write_order zs) G := by
  unfold sp_write_order at h
  split at h
  · rename_i v
    obtain ⟨hp, h1, h2⟩ := h
    unfold N_write_order ds_write_order
    simp only [dRet, dRetN, dSeq, dAsg, dDrop, dIfS, dNext, dBreak, dCont, dPar, dSetL, dSetD, dFor, dVar, dC, dOp, dAndV, dOrV, dNotV, dAnd, dOr, dNot, dIf, dTest, dChain, dNil, dCons, dTup, dLst, dLstM, dStar, dNeg, dCB, dCall, dCallK, dMthT, dMth0, dLc, dYes, dISeq, dIStr, dIEnum, dIZip, dIRng1, dIRng2, dSl, dPart, dNoPart, dRaise, dDisp1, dNewD, dRevL, dRevT, dSortSet, dSortSetL, dIRng3, dGet2, dIKeys, dNewT, dSetT, dLstRg, dPar3, dLcM, dAugL, dSetdT, dDispT, dIItemsT, dIValsT, rdDInP, dFld, dSetF, dMake, dIKeysT, rdIsC, dCntC, dTupC, dSlC, dRevC, dISeqX, dMeth, dMeth0, dSetM, dNewM, lnX_t, lnX_l, srX_t, dLamA, dLamB, gdName, gdTup, gdCons, gdNil, dstart, dwipe, dAug, rdInt, rdSub, rdLt, rdLe, rdGt, rdGe, rdFdiv, rdMod, rdPow, at0, at1, at2, i30, i31, i32, set0, set1, set2, MO.lst.injEq, gup_same, gup_gup, ad_ii, ad_ss, ad_tt, ad_ll, mu_ii, mu_li, mu_ti, ix_t, ix_l, ix_s, ix_r, ix_w, ln_t, ln_l, ln_s, ln_w, ln_r, sr_t, sr_l, sr_s, sr_r, sl_t, sl_l, sl_s, sl_r, sl_w, tu_t, tu_l, tu_r, li_t, li_l, li_r, lm_t, lm_l, mx2, mn2, ab1, in1, is2, rdIsB, rdNotB, rdIsN, rdNotN, TD.isNon, List.map_cons, List.map_nil, List.length_cons, List.length_nil, List.replicate_succ, List.replicate_zero, List.cons_append, List.nil_append, List.append_nil, Nat.zero_add, Nat.reduceAdd, Nat.reduceSub, Nat.sub_self, Nat.add_sub_cancel, List.getElem?_cons_zero, List.getElem?_cons_succ, List.getElem?_nil, List.set_cons_zero, List.set_cons_succ, List.set_nil, Option.some.injEq, D.int.injEq, D.bl.injEq, D.str.injEq, D.ref.injEq, D.ty.injEq, D.tup.injEq, D.lst.injEq, List.cons.injEq, and_true, true_and, ex_two, ex_two', exists_eq_left', exists_eq_left, exists_and_left, exists_and_right, exists_const, exists_eq_right, exists_eq_right', Bool.not_true, Bool.not_false, if_true, if_false, Bool.false_eq_true, reduceCtorEq, false_and, and_false, decide_true, decide_false, sp_are_in, sp_demand]
    refine ⟨hp, ?_⟩
    show if areIn v 0 6 0 (5 - 1) = true then _ else _
    rw [show (5 : Int) - 1 = 4 from rfl]
    cases e : areIn v 0 6 0 4 with
    | false => simpa using h1 e
    | true =>
      obtain ⟨ns, rfl, _, hl, hb⟩ := areIn_ok e
      simp only [if_true, intsD, dRet, dRetN, dSeq, dAsg, dDrop, dIfS, dNext, dBreak, dCont, dPar, dSetL, dSetD, dFor, dVar, dC, dOp, dAndV, dOrV, dNotV, dAnd, dOr, dNot, dIf, dTest, dChain, dNil, dCons, dTup, dLst, dLstM, dStar, dNeg, dCB, dCall, dCallK, dMthT, dMth0, dLc, dYes, dISeq, dIStr, dIEnum, dIZip, dIRng1, dIRng2, dSl, dPart, dNoPart, dRaise, dDisp1, dNewD, dRevL, dRevT, dSortSet, dSortSetL, dIRng3, dGet2, dIKeys, dNewT, dSetT, dLstRg, dPar3, dLcM, dAugL, dSetdT, dDispT, dIItemsT, dIValsT, rdDInP, dFld, dSetF, dMake, dIKeysT, rdIsC, dCntC, dTupC, dSlC, dRevC, dISeqX, dMeth, dMeth0, dSetM, dNewM, lnX_t, lnX_l, srX_t, dLamA, dLamB, gdName, gdTup, gdCons, gdNil, dstart, dwipe, dAug, rdInt, rdSub, rdLt, rdLe, rdGt, rdGe, rdFdiv, rdMod, rdPow, at0, at1, at2, i30, i31, i32, set0, set1, set2, MO.lst.injEq, gup_same, gup_gup, ad_ii, ad_ss, ad_tt, ad_ll, mu_ii, mu_li, mu_ti, ix_t, ix_l, ix_s, ix_r, ix_w, ln_t, ln_l, ln_s, ln_w, ln_r, sr_t, sr_l, sr_s, sr_r, sl_t, sl_l, sl_s, sl_r, sl_w, tu_t, tu_l, tu_r, li_t, li_l, li_r, lm_t, lm_l, mx2, mn2, ab1, in1, is2, rdIsB, rdNotB, rdIsN, rdNotN, TD.isNon, List.map_cons, List.map_nil, List.length_cons, List.length_nil, List.replicate_succ, List.replicate_zero, List.cons_append, List.nil_append, List.append_nil, Nat.zero_add, Nat.reduceAdd, Nat.reduceSub, Nat.sub_self, Nat.add_sub_cancel, List.getElem?_cons_zero, List.getElem?_cons_succ, List.getElem?_nil, List.set_cons_zero, List.set_cons_succ, List.set_nil, Option.some.injEq, D.int.injEq, D.bl.injEq, D.str.injEq, D.ref.injEq, D.ty.injEq, D.tup.injEq, D.lst.injEq, List.cons.injEq, and_true, true_and, ex_two, ex_two', exists_eq_left', exists_eq_left, exists_and_left, exists_and_right, exists_const, exists_eq_right, exists_eq_right', Bool.not_true, Bool.not_false, if_true, if_false, Bool.false_eq_true, reduceCtorEq, false_and, and_false, decide_true, decide_false, tyM, rdJoin]
      refine dComp_map (fun d => match d with | .int i => D.str (stI i) | _ => .non) trivial (fun d hd K1 k => ?_) ?_
      · obtain ⟨i, hi, rfl⟩ := List.mem_map.mp hd
        have hb := hb i hi
        simp only [dRet, dRetN, dSeq, dAsg, dDrop, dIfS, dNext, dBreak, dCont, dPar, dSetL, dSetD, dFor, dVar, dC, dOp, dAndV, dOrV, dNotV, dAnd, dOr, dNot, dIf, dTest, dChain, dNil, dCons, dTup, dLst, dLstM, dStar, dNeg, dCB, dCall, dCallK, dMthT, dMth0, dLc, dYes, dISeq, dIStr, dIEnum, dIZip, dIRng1, dIRng2, dSl, dPart, dNoPart, dRaise, dDisp1, dNewD, dRevL, dRevT, dSortSet, dSortSetL, dIRng3, dGet2, dIKeys, dNewT, dSetT, dLstRg, dPar3, dLcM, dAugL, dSetdT, dDispT, dIItemsT, dIValsT, rdDInP, dFld, dSetF, dMake, dIKeysT, rdIsC, dCntC, dTupC, dSlC, dRevC, dISeqX, dMeth, dMeth0, dSetM, dNewM, lnX_t, lnX_l, srX_t, dLamA, dLamB, gdName, gdTup, gdCons, gdNil, dstart, dwipe, dAug, rdInt, rdSub, rdLt, rdLe, rdGt, rdGe, rdFdiv, rdMod, rdPow, at0, at1, at2, i30, i31, i32, set0, set1, set2, MO.lst.injEq, gup_same, gup_gup, ad_ii, ad_ss, ad_tt, ad_ll, mu_ii, mu_li, mu_ti, ix_t, ix_l, ix_s, ix_r, ix_w, ln_t, ln_l, ln_s, ln_w, ln_r, sr_t, sr_l, sr_s, sr_r, sl_t, sl_l, sl_s, sl_r, sl_w, tu_t, tu_l, tu_r, li_t, li_l, li_r, lm_t, lm_l, mx2, mn2, ab1, in1, is2, rdIsB, rdNotB, rdIsN, rdNotN, TD.isNon, List.map_cons, List.map_nil, List.length_cons, List.length_nil, List.replicate_succ, List.replicate_zero, List.cons_append, List.nil_append, List.append_nil, Nat.zero_add, Nat.reduceAdd, Nat.reduceSub, Nat.sub_self, Nat.add_sub_cancel, List.getElem?_cons_zero, List.getElem?_cons_succ, List.getElem?_nil, List.set_cons_zero, List.set_cons_succ, List.set_nil, Option.some.injEq, D.int.injEq, D.bl.injEq, D.str.injEq, D.ref.injEq, D.ty.injEq, D.tup.injEq, D.lst.injEq, List.cons.injEq, and_true, true_and, ex_two, ex_two', exists_eq_left', exists_eq_left, exists_and_left, exists_and_right, exists_const, exists_eq_right, exists_eq_right', Bool.not_true, Bool.not_false, if_true, if_false, Bool.false_eq_true, reduceCtorEq, false_and, and_false, decide_true, decide_false, rdStrI]
        exact ⟨log_small (by omega) (by omega), k⟩
      · refine ⟨ns.map stI, ?_, ?_, h2 ns rfl (by omega) hb⟩
        · rw [List.map_map, List.map_map] <;> rfl
        · have : tot (ns.map stI) ≤ 4 * ns.length := tot_sts fun y hy => by have := hb y hy; omega
          have e0 : ("" : Str).length = 0 := by decide +kernel
          rw [e0]
          unfold tot at this
          omega
  · exact h.elim
/-- what a sign counts -/
def fig (l : List Nat) : Int := match l with
  | [c] => if 48 ≤ c ∧ c ≤ 57 then (c : Int) - 48 else 5
  | _ => 5
def figD (d : D) : D := match d with
  | .str x => .int (fig (TL.tl x))
  | _ => .non
def figs (w : Str) : List Int := (TL.tl w).map fun c => fig [c]
theorem figs_map (w : Str) : (signs w).map figD = (figs w).map D.int := by
  unfold signs figs
  rw [List.map_map, List.map_map] <;> rfl
theorem sign_mem {w : Str} {d : D} (h : d ∈ signs w) : ∃ c ∈ TL.tl w, d = .str ⟨#[c]⟩ := by
  unfold signs at h
  obtain ⟨c, hc, rfl⟩ := List.mem_map.mp h
  exact ⟨c, hc, rfl⟩
theorem idx_fig {c : Nat} (h : 48 ≤ c ∧ c ≤ 57) : Txt.index0 ("0123456789" : Str) ⟨#[c]⟩ = some (c - 48) := by
  have e : c = 48 ∨ c = 49 ∨ c = 50 ∨ c = 51 ∨ c = 52 ∨ c = 53 ∨ c = 54 ∨ c = 55 ∨ c = 56 ∨ c = 57 := by omega
  rcases e with rfl | rfl | rfl | rfl | rfl | rfl | rfl | rfl | rfl | rfl <;> decide +kernel
theorem fig_in {c : Nat} : (0 ≤ fig [c] ∧ fig [c] ≤ 4) ↔ (48 ≤ c ∧ c ≤ 52) := by
  show (0 ≤ (if 48 ≤ c ∧ c ≤ 57 then (c : Int) - 48 else 5) ∧ (if 48 ≤ c ∧ c ≤ 57 then (c : Int) - 48 else 5) ≤ 4) ↔ _
  split <;> omega
theorem fig_val {c : Nat} (h : 48 ≤ c ∧ c ≤ 57) : fig [c] = (c : Int) - 48 := by
  show (if 48 ≤ c ∧ c ≤ 57 then (c : Int) - 48 else 5) = _
  rw [if_pos h]
theorem figs_ok {w : Str} : areIn (intsD (figs w)) 0 6 0 4 = decide (OrdOK w) := by
  rw [areIn_ints]
  refine Bool.eq_iff_iff.mpr ?_
  unfold figs
  simp only [Bool.and_eq_true, decide_eq_true_eq, List.all_eq_true, List.length_map]
  have hl := TL.len_tl w
  constructor
  · rintro ⟨⟨_, h2⟩, h3⟩
    refine ⟨by omega, fun c hc => fig_in.mp (h3 _ (List.mem_map_of_mem hc))⟩
  · rintro ⟨h1, h2⟩
    refine ⟨⟨by omega, by omega⟩, fun x hx => ?_⟩
    obtain ⟨c, hc, rfl⟩ := List.mem_map.mp hx
    exact fig_in.mpr (h2 c hc)
theorem figs_val {w : Str} (h : OrdOK w) : figs w = ordV w := by
  unfold figs ordV
  refine List.map_congr_left fun c hc => ?_
  have := h.2 c hc
  exact fig_val (by omega)
def sp_read_order (A : Ad) : SpD := fun zs G Q x => match zs with
  | [.str w] => w.length ≤ sizeLine ∧ (w.length ≤ 1000 → OrdOK w → Q (intsD (ordV w)) G) ∧ (w.length ≤ 1000 → ¬ OrdOK w → BadT A x G 1) ∧ (¬ w.length ≤ 1000 → BadT A x G 0)
  | [z] => NotS z ∧ BadT A x G 0
  | _ => False
theorem len_read_order {A : Ad} {zs : List D} {G : GH} {Q : DK} {x : XD} (h : sp_read_order A zs G Q x) : zs.length = 1 := by
  unfold sp_read_order at h
  split at h <;> first | rfl | exact h.elim
def ds_read_order (A : Ad) : DS := dSeq (dDrop (dCall (sp_demand_text A) (dCons (dVar 0) dNil))) (dSeq (dAsg (dCB rdTuple (dCons (dLc (dIStr (dVar 0)) (gdName 1) dYes (dIf (dTest (dOp rdInS (dVar 1) (dC (.str "0123456789")))) (dMthT "str" rdIdxS (dC (.str "0123456789")) (dCons (dVar 1) dNil)) (dC (.int 5))) [1]) dNil)) (gdName 2)) (dSeq (dIfS (dNot (dTest (dCall (sp_are_in A) (dCons (dVar 2) (dCons (dC (.int 0)) (dCons (dC (.int 6)) (dCons (dC (.int 0)) (dCons (dOp rdSub (dC (.int 5)) (dC (.int 1))) dNil)))))))) (dRaise A.cTxt (ErrX.EF.fld .line) (dC (.int 1))) dNext) (dRet (dVar 2))))
def N_read_order : List PySem.Str := ["text", "sign", "found"]
theorem demand_no {A : Ad} {z : D} {G : GH} {Q : DK} {x : XD} (h : NotS z) (q : BadT A x G 0) : sp_demand_text A [z] G Q x := by
  unfold sp_demand_text
  split
  · rename_i w e
    injection e with e
    subst e
    exact absurd rfl h.2
  · rename_i e
    injection e with e
    subst e
    exact ⟨h, q⟩
  · rename_i h1 h2
    exact absurd rfl (h2 z)
theorem read_read_order {A : Ad} {zs : List D} {G : GH} {Q : DK} {x : XD} (h : sp_read_order A zs G Q x) : ds_read_order A { nx := fun _ G' => Q .non G', rt := Q, xx := fun _ => x } (dstart N_read_order zs) G := by
  unfold sp_read_order at h
  split at h
  · rename_i w
    obtain ⟨hl, h1, h2, h3⟩ := h
    unfold N_read_order ds_read_order
    simp only [dRet, dRetN, dSeq, dAsg, dDrop, dIfS, dNext, dBreak, dCont, dPar, dSetL, dSetD, dFor, dVar, dC, dOp, dAndV, dOrV, dNotV, dAnd, dOr, dNot, dIf, dTest, dChain, dNil, dCons, dTup, dLst, dLstM, dStar, dNeg, dCB, dCall, dCallK, dMthT, dMth0, dLc, dYes, dISeq, dIStr, dIEnum, dIZip, dIRng1, dIRng2, dSl, dPart, dNoPart, dRaise, dDisp1, dNewD, dRevL, dRevT, dSortSet, dSortSetL, dIRng3, dGet2, dIKeys, dNewT, dSetT, dLstRg, dPar3, dLcM, dAugL, dSetdT, dDispT, dIItemsT, dIValsT, rdDInP, dFld, dSetF, dMake, dIKeysT, rdIsC, dCntC, dTupC, dSlC, dRevC, dISeqX, dMeth, dMeth0, dSetM, dNewM, lnX_t, lnX_l, srX_t, dLamA, dLamB, gdName, gdTup, gdCons, gdNil, dstart, dwipe, dAug, rdInt, rdSub, rdLt, rdLe, rdGt, rdGe, rdFdiv, rdMod, rdPow, at0, at1, at2, i30, i31, i32, set0, set1, set2, MO.lst.injEq, gup_same, gup_gup, ad_ii, ad_ss, ad_tt, ad_ll, mu_ii, mu_li, mu_ti, ix_t, ix_l, ix_s, ix_r, ix_w, ln_t, ln_l, ln_s, ln_w, ln_r, sr_t, sr_l, sr_s, sr_r, sl_t, sl_l, sl_s, sl_r, sl_w, tu_t, tu_l, tu_r, li_t, li_l, li_r, lm_t, lm_l, mx2, mn2, ab1, in1, is2, rdIsB, rdNotB, rdIsN, rdNotN, TD.isNon, List.map_cons, List.map_nil, List.length_cons, List.length_nil, List.replicate_succ, List.replicate_zero, List.cons_append, List.nil_append, List.append_nil, Nat.zero_add, Nat.reduceAdd, Nat.reduceSub, Nat.sub_self, Nat.add_sub_cancel, List.getElem?_cons_zero, List.getElem?_cons_succ, List.getElem?_nil, List.set_cons_zero, List.set_cons_succ, List.set_nil, Option.some.injEq, D.int.injEq, D.bl.injEq, D.str.injEq, D.ref.injEq, D.ty.injEq, D.tup.injEq, D.lst.injEq, List.cons.injEq, and_true, true_and, ex_two, ex_two', exists_eq_left', exists_eq_left, exists_and_left, exists_and_right, exists_const, exists_eq_right, exists_eq_right', Bool.not_true, Bool.not_false, if_true, if_false, Bool.false_eq_true, reduceCtorEq, false_and, and_false, decide_true, decide_false]
    refine ⟨hl, fun c => ?_, h3⟩
    refine ⟨hl, ?_⟩
    refine dComp_map figD trivial (fun d hd K1 k => ?_) ?_
    · obtain ⟨c, hc, rfl⟩ := sign_mem hd
      simp only [dRet, dRetN, dSeq, dAsg, dDrop, dIfS, dNext, dBreak, dCont, dPar, dSetL, dSetD, dFor, dVar, dC, dOp, dAndV, dOrV, dNotV, dAnd, dOr, dNot, dIf, dTest, dChain, dNil, dCons, dTup, dLst, dLstM, dStar, dNeg, dCB, dCall, dCallK, dMthT, dMth0, dLc, dYes, dISeq, dIStr, dIEnum, dIZip, dIRng1, dIRng2, dSl, dPart, dNoPart, dRaise, dDisp1, dNewD, dRevL, dRevT, dSortSet, dSortSetL, dIRng3, dGet2, dIKeys, dNewT, dSetT, dLstRg, dPar3, dLcM, dAugL, dSetdT, dDispT, dIItemsT, dIValsT, rdDInP, dFld, dSetF, dMake, dIKeysT, rdIsC, dCntC, dTupC, dSlC, dRevC, dISeqX, dMeth, dMeth0, dSetM, dNewM, lnX_t, lnX_l, srX_t, dLamA, dLamB, gdName, gdTup, gdCons, gdNil, dstart, dwipe, dAug, rdInt, rdSub, rdLt, rdLe, rdGt, rdGe, rdFdiv, rdMod, rdPow, at0, at1, at2, i30, i31, i32, set0, set1, set2, MO.lst.injEq, gup_same, gup_gup, ad_ii, ad_ss, ad_tt, ad_ll, mu_ii, mu_li, mu_ti, ix_t, ix_l, ix_s, ix_r, ix_w, ln_t, ln_l, ln_s, ln_w, ln_r, sr_t, sr_l, sr_s, sr_r, sl_t, sl_l, sl_s, sl_r, sl_w, tu_t, tu_l, tu_r, li_t, li_l, li_r, lm_t, lm_l, mx2, mn2, ab1, in1, is2, rdIsB, rdNotB, rdIsN, rdNotN, TD.isNon, List.map_cons, List.map_nil, List.length_cons, List.length_nil, List.replicate_succ, List.replicate_zero, List.cons_append, List.nil_append, List.append_nil, Nat.zero_add, Nat.reduceAdd, Nat.reduceSub, Nat.sub_self, Nat.add_sub_cancel, List.getElem?_cons_zero, List.getElem?_cons_succ, List.getElem?_nil, List.set_cons_zero, List.set_cons_succ, List.set_nil, Option.some.injEq, D.int.injEq, D.bl.injEq, D.str.injEq, D.ref.injEq, D.ty.injEq, D.tup.injEq, D.lst.injEq, List.cons.injEq, and_true, true_and, ex_two, ex_two', exists_eq_left', exists_eq_left, exists_and_left, exists_and_right, exists_const, exists_eq_right, exists_eq_right', Bool.not_true, Bool.not_false, if_true, if_false, Bool.false_eq_true, reduceCtorEq, false_and, and_false, decide_true, decide_false, rdInS, tyM, rdIdxS]
      refine ⟨c, rfl, ?_⟩
      by_cases hf : 48 ≤ c ∧ c ≤ 57
      · rw [decide_eq_true (mem_fig.mpr hf)]
        simp only [if_true]
        refine ⟨_, idx_fig hf, ?_⟩
        have e : figD (.str ⟨#[c]⟩) = .int (((c - 48 : Nat) : Nat) : Int) := by
          show D.int (fig [c]) = _
          rw [fig_val hf]
          congr 1
          omega
        rw [← e]
        exact k
      · rw [decide_eq_false fun z => hf (mem_fig.mp z)]
        simp only [Bool.false_eq_true, if_false]
        have e : figD (.str ⟨#[c]⟩) = .int 5 := by
          show D.int (if 48 ≤ c ∧ c ≤ 57 then (c : Int) - 48 else 5) = _
          rw [if_neg hf]
        rw [← e]
        exact k
    · rw [List.nil_append, figs_map]
      simp only [dRet, dRetN, dSeq, dAsg, dDrop, dIfS, dNext, dBreak, dCont, dPar, dSetL, dSetD, dFor, dVar, dC, dOp, dAndV, dOrV, dNotV, dAnd, dOr, dNot, dIf, dTest, dChain, dNil, dCons, dTup, dLst, dLstM, dStar, dNeg, dCB, dCall, dCallK, dMthT, dMth0, dLc, dYes, dISeq, dIStr, dIEnum, dIZip, dIRng1, dIRng2, dSl, dPart, dNoPart, dRaise, dDisp1, dNewD, dRevL, dRevT, dSortSet, dSortSetL, dIRng3, dGet2, dIKeys, dNewT, dSetT, dLstRg, dPar3, dLcM, dAugL, dSetdT, dDispT, dIItemsT, dIValsT, rdDInP, dFld, dSetF, dMake, dIKeysT, rdIsC, dCntC, dTupC, dSlC, dRevC, dISeqX, dMeth, dMeth0, dSetM, dNewM, lnX_t, lnX_l, srX_t, dLamA, dLamB, gdName, gdTup, gdCons, gdNil, dstart, dwipe, dAug, rdInt, rdSub, rdLt, rdLe, rdGt, rdGe, rdFdiv, rdMod, rdPow, at0, at1, at2, i30, i31, i32, set0, set1, set2, MO.lst.injEq, gup_same, gup_gup, ad_ii, ad_ss, ad_tt, ad_ll, mu_ii, mu_li, mu_ti, ix_t, ix_l, ix_s, ix_r, ix_w, ln_t, ln_l, ln_s, ln_w, ln_r, sr_t, sr_l, sr_s, sr_r, sl_t, sl_l, sl_s, sl_r, sl_w, tu_t, tu_l, tu_r, li_t, li_l, li_r, lm_t, lm_l, mx2, mn2, ab1, in1, is2, rdIsB, rdNotB, rdIsN, rdNotN, TD.isNon, List.map_cons, List.map_nil, List.length_cons, List.length_nil, List.replicate_succ, List.replicate_zero, List.cons_append, List.nil_append, List.append_nil, Nat.zero_add, Nat.reduceAdd, Nat.reduceSub, Nat.sub_self, Nat.add_sub_cancel, List.getElem?_cons_zero, List.getElem?_cons_succ, List.getElem?_nil, List.set_cons_zero, List.set_cons_succ, List.set_nil, Option.some.injEq, D.int.injEq, D.bl.injEq, D.str.injEq, D.ref.injEq, D.ty.injEq, D.tup.injEq, D.lst.injEq, List.cons.injEq, and_true, true_and, ex_two, ex_two', exists_eq_left', exists_eq_left, exists_and_left, exists_and_right, exists_const, exists_eq_right, exists_eq_right', Bool.not_true, Bool.not_false, if_true, if_false, Bool.false_eq_true, reduceCtorEq, false_and, and_false, decide_true, decide_false, sp_are_in]
      refine ⟨pur_ints _, ?_⟩
      rw [show (5 : Int) - 1 = 4 from rfl]
      have e := figs_ok (w := w)
      unfold intsD at e
      rw [e]
      by_cases ho : OrdOK w
      · rw [decide_eq_true ho]
        simp only [Bool.not_true, Bool.false_eq_true, if_false]
        rw [figs_val ho]
        exact h1 c ho
      · rw [decide_eq_false ho]
        simp only [Bool.not_false, if_true]
        exact h2 c ho
  · rename_i z _
    unfold N_read_order ds_read_order
    simp only [dRet, dRetN, dSeq, dAsg, dDrop, dIfS, dNext, dBreak, dCont, dPar, dSetL, dSetD, dFor, dVar, dC, dOp, dAndV, dOrV, dNotV, dAnd, dOr, dNot, dIf, dTest, dChain, dNil, dCons, dTup, dLst, dLstM, dStar, dNeg, dCB, dCall, dCallK, dMthT, dMth0, dLc, dYes, dISeq, dIStr, dIEnum, dIZip, dIRng1, dIRng2, dSl, dPart, dNoPart, dRaise, dDisp1, dNewD, dRevL, dRevT, dSortSet, dSortSetL, dIRng3, dGet2, dIKeys, dNewT, dSetT, dLstRg, dPar3, dLcM, dAugL, dSetdT, dDispT, dIItemsT, dIValsT, rdDInP, dFld, dSetF, dMake, dIKeysT, rdIsC, dCntC, dTupC, dSlC, dRevC, dISeqX, dMeth, dMeth0, dSetM, dNewM, lnX_t, lnX_l, srX_t, dLamA, dLamB, gdName, gdTup, gdCons, gdNil, dstart, dwipe, dAug, rdInt, rdSub, rdLt, rdLe, rdGt, rdGe, rdFdiv, rdMod, rdPow, at0, at1, at2, i30, i31, i32, set0, set1, set2, MO.lst.injEq, gup_same, gup_gup, ad_ii, ad_ss, ad_tt, ad_ll, mu_ii, mu_li, mu_ti, ix_t, ix_l, ix_s, ix_r, ix_w, ln_t, ln_l, ln_s, ln_w, ln_r, sr_t, sr_l, sr_s, sr_r, sl_t, sl_l, sl_s, sl_r, sl_w, tu_t, tu_l, tu_r, li_t, li_l, li_r, lm_t, lm_l, mx2, mn2, ab1, in1, is2, rdIsB, rdNotB, rdIsN, rdNotN, TD.isNon, List.map_cons, List.map_nil, List.length_cons, List.length_nil, List.replicate_succ, List.replicate_zero, List.cons_append, List.nil_append, List.append_nil, Nat.zero_add, Nat.reduceAdd, Nat.reduceSub, Nat.sub_self, Nat.add_sub_cancel, List.getElem?_cons_zero, List.getElem?_cons_succ, List.getElem?_nil, List.set_cons_zero, List.set_cons_succ, List.set_nil, Option.some.injEq, D.int.injEq, D.bl.injEq, D.str.injEq, D.ref.injEq, D.ty.injEq, D.tup.injEq, D.lst.injEq, List.cons.injEq, and_true, true_and, ex_two, ex_two', exists_eq_left', exists_eq_left, exists_and_left, exists_and_right, exists_const, exists_eq_right, exists_eq_right', Bool.not_true, Bool.not_false, if_true, if_false, Bool.false_eq_true, reduceCtorEq, false_and, and_false, decide_true, decide_false]
    exact demand_no h.1 h.2
  · exact h.elim
end K00
namespace K00
open PySem L2 TD
def sp_write_table (A : Ad) : SpD := fun zs G Q x => match zs with
  | [v] => Pur v ∧ (isTab v = false → x A.cBad [("name", .str "table")] G) ∧ (∀ t, v = tabD t → WT t → Q (.str (tabT t)) G)
  | _ => False
theorem len_write_table {A : Ad} {zs : List D} {G : GH} {Q : DK} {x : XD} (h : sp_write_table A zs G Q x) : zs.length = 1 := by
  unfold sp_write_table at h
  split at h <;> first | rfl | exact h.elim
def ds_write_table (A : Ad) : DS := dSeq (dDrop (dCall (sp_demand A) (dCons (dCall (sp_is_table A) (dCons (dVar 0) dNil)) (dCons (dC (.str "table")) dNil)))) (dRet (dMthT "str" rdJoin (dC (.str "\n")) (dCons (dLc (dISeq (dVar 0)) (gdName 2) dYes (dMthT "str" rdJoin (dC (.str " ")) (dCons (dLc (dISeq (dVar 2)) (gdName 1) dYes (dCB rdStrI (dCons (dVar 1) dNil)) [1]) dNil)) [2]) dNil)))
def N_write_table : List PySem.Str := ["table", "toll", "row"]
theorem read_write_table {A : Ad} {zs : List D} {G : GH} {Q : DK} {x : XD} (h : sp_write_table A zs G Q x) : ds_write_table A { nx := fun _ G' => Q .non G', rt := Q, xx := fun _ => x } (dstart N_write_table zs) G := by
  unfold sp_write_table at h
  split at h
  · rename_i v
    obtain ⟨hp, h1, h2⟩ := h
    unfold N_write_table ds_write_table
    simp only [dRet, dRetN, dSeq, dAsg, dDrop, dIfS, dNext, dBreak, dCont, dPar, dSetL, dSetD, dFor, dVar, dC, dOp, dAndV, dOrV, dNotV, dAnd, dOr, dNot, dIf, dTest, dChain, dNil, dCons, dTup, dLst, dLstM, dStar, dNeg, dCB, dCall, dCallK, dMthT, dMth0, dLc, dYes, dISeq, dIStr, dIEnum, dIZip, dIRng1, dIRng2, dSl, dPart, dNoPart, dRaise, dDisp1, dNewD, dRevL, dRevT, dSortSet, dSortSetL, dIRng3, dGet2, dIKeys, dNewT, dSetT, dLstRg, dPar3, dLcM, dAugL, dSetdT, dDispT, dIItemsT, dIValsT, rdDInP, dFld, dSetF, dMake, dIKeysT, rdIsC, dCntC, dTupC, dSlC, dRevC, dISeqX, dMeth, dMeth0, dSetM, dNewM, lnX_t, lnX_l, srX_t, dLamA, dLamB, gdName, gdTup, gdCons, gdNil, dstart, dwipe, dAug, rdInt, rdSub, rdLt, rdLe, rdGt, rdGe, rdFdiv, rdMod, rdPow, at0, at1, at2, i30, i31, i32, set0, set1, set2, MO.lst.injEq, gup_same, gup_gup, ad_ii, ad_ss, ad_tt, ad_ll, mu_ii, mu_li, mu_ti, ix_t, ix_l, ix_s, ix_r, ix_w, ln_t, ln_l, ln_s, ln_w, ln_r, sr_t, sr_l, sr_s, sr_r, sl_t, sl_l, sl_s, sl_r, sl_w, tu_t, tu_l, tu_r, li_t, li_l, li_r, lm_t, lm_l, mx2, mn2, ab1, in1, is2, rdIsB, rdNotB, rdIsN, rdNotN, TD.isNon, List.map_cons, List.map_nil, List.length_cons, List.length_nil, List.replicate_succ, List.replicate_zero, List.cons_append, List.nil_append, List.append_nil, Nat.zero_add, Nat.reduceAdd, Nat.reduceSub, Nat.sub_self, Nat.add_sub_cancel, List.getElem?_cons_zero, List.getElem?_cons_succ, List.getElem?_nil, List.set_cons_zero, List.set_cons_succ, List.set_nil, Option.some.injEq, D.int.injEq, D.bl.injEq, D.str.injEq, D.ref.injEq, D.ty.injEq, D.tup.injEq, D.lst.injEq, List.cons.injEq, and_true, true_and, ex_two, ex_two', exists_eq_left', exists_eq_left, exists_and_left, exists_and_right, exists_const, exists_eq_right, exists_eq_right', Bool.not_true, Bool.not_false, if_true, if_false, Bool.false_eq_true, reduceCtorEq, false_and, and_false, decide_true, decide_false, sp_is_table, sp_demand]
    refine ⟨hp, ?_⟩
    cases e : isTab v with
    | false => simpa using h1 e
    | true =>
      obtain ⟨t, rfl, w⟩ := isTab_ok e
      simp only [if_true, tabD, dRet, dRetN, dSeq, dAsg, dDrop, dIfS, dNext, dBreak, dCont, dPar, dSetL, dSetD, dFor, dVar, dC, dOp, dAndV, dOrV, dNotV, dAnd, dOr, dNot, dIf, dTest, dChain, dNil, dCons, dTup, dLst, dLstM, dStar, dNeg, dCB, dCall, dCallK, dMthT, dMth0, dLc, dYes, dISeq, dIStr, dIEnum, dIZip, dIRng1, dIRng2, dSl, dPart, dNoPart, dRaise, dDisp1, dNewD, dRevL, dRevT, dSortSet, dSortSetL, dIRng3, dGet2, dIKeys, dNewT, dSetT, dLstRg, dPar3, dLcM, dAugL, dSetdT, dDispT, dIItemsT, dIValsT, rdDInP, dFld, dSetF, dMake, dIKeysT, rdIsC, dCntC, dTupC, dSlC, dRevC, dISeqX, dMeth, dMeth0, dSetM, dNewM, lnX_t, lnX_l, srX_t, dLamA, dLamB, gdName, gdTup, gdCons, gdNil, dstart, dwipe, dAug, rdInt, rdSub, rdLt, rdLe, rdGt, rdGe, rdFdiv, rdMod, rdPow, at0, at1, at2, i30, i31, i32, set0, set1, set2, MO.lst.injEq, gup_same, gup_gup, ad_ii, ad_ss, ad_tt, ad_ll, mu_ii, mu_li, mu_ti, ix_t, ix_l, ix_s, ix_r, ix_w, ln_t, ln_l, ln_s, ln_w, ln_r, sr_t, sr_l, sr_s, sr_r, sl_t, sl_l, sl_s, sl_r, sl_w, tu_t, tu_l, tu_r, li_t, li_l, li_r, lm_t, lm_l, mx2, mn2, ab1, in1, is2, rdIsB, rdNotB, rdIsN, rdNotN, TD.isNon, List.map_cons, List.map_nil, List.length_cons, List.length_nil, List.replicate_succ, List.replicate_zero, List.cons_append, List.nil_append, List.append_nil, Nat.zero_add, Nat.reduceAdd, Nat.reduceSub, Nat.sub_self, Nat.add_sub_cancel, List.getElem?_cons_zero, List.getElem?_cons_succ, List.getElem?_nil, List.set_cons_zero, List.set_cons_succ, List.set_nil, Option.some.injEq, D.int.injEq, D.bl.injEq, D.str.injEq, D.ref.injEq, D.ty.injEq, D.tup.injEq, D.lst.injEq, List.cons.injEq, and_true, true_and, ex_two, ex_two', exists_eq_left', exists_eq_left, exists_and_left, exists_and_right, exists_const, exists_eq_right, exists_eq_right', Bool.not_true, Bool.not_false, if_true, if_false, Bool.false_eq_true, reduceCtorEq, false_and, and_false, decide_true, decide_false, tyM, rdJoin]
      refine dComp_map (fun d => match d with | .tup r => D.str (Txt.join SP (r.map fun d => match d with | .int i => stI i | _ => Str.empty)) | _ => .non) trivial (fun d hd K1 k => ?_) ?_
      · obtain ⟨r, hr, rfl⟩ := List.mem_map.mp hd
        have hb := w.bnd r hr
        simp only [intsD, dRet, dRetN, dSeq, dAsg, dDrop, dIfS, dNext, dBreak, dCont, dPar, dSetL, dSetD, dFor, dVar, dC, dOp, dAndV, dOrV, dNotV, dAnd, dOr, dNot, dIf, dTest, dChain, dNil, dCons, dTup, dLst, dLstM, dStar, dNeg, dCB, dCall, dCallK, dMthT, dMth0, dLc, dYes, dISeq, dIStr, dIEnum, dIZip, dIRng1, dIRng2, dSl, dPart, dNoPart, dRaise, dDisp1, dNewD, dRevL, dRevT, dSortSet, dSortSetL, dIRng3, dGet2, dIKeys, dNewT, dSetT, dLstRg, dPar3, dLcM, dAugL, dSetdT, dDispT, dIItemsT, dIValsT, rdDInP, dFld, dSetF, dMake, dIKeysT, rdIsC, dCntC, dTupC, dSlC, dRevC, dISeqX, dMeth, dMeth0, dSetM, dNewM, lnX_t, lnX_l, srX_t, dLamA, dLamB, gdName, gdTup, gdCons, gdNil, dstart, dwipe, dAug, rdInt, rdSub, rdLt, rdLe, rdGt, rdGe, rdFdiv, rdMod, rdPow, at0, at1, at2, i30, i31, i32, set0, set1, set2, MO.lst.injEq, gup_same, gup_gup, ad_ii, ad_ss, ad_tt, ad_ll, mu_ii, mu_li, mu_ti, ix_t, ix_l, ix_s, ix_r, ix_w, ln_t, ln_l, ln_s, ln_w, ln_r, sr_t, sr_l, sr_s, sr_r, sl_t, sl_l, sl_s, sl_r, sl_w, tu_t, tu_l, tu_r, li_t, li_l, li_r, lm_t, lm_l, mx2, mn2, ab1, in1, is2, rdIsB, rdNotB, rdIsN, rdNotN, TD.isNon, List.map_cons, List.map_nil, List.length_cons, List.length_nil, List.replicate_succ, List.replicate_zero, List.cons_append, List.nil_append, List.append_nil, Nat.zero_add, Nat.reduceAdd, Nat.reduceSub, Nat.sub_self, Nat.add_sub_cancel, List.getElem?_cons_zero, List.getElem?_cons_succ, List.getElem?_nil, List.set_cons_zero, List.set_cons_succ, List.set_nil, Option.some.injEq, D.int.injEq, D.bl.injEq, D.str.injEq, D.ref.injEq, D.ty.injEq, D.tup.injEq, D.lst.injEq, List.cons.injEq, and_true, true_and, ex_two, ex_two', exists_eq_left', exists_eq_left, exists_and_left, exists_and_right, exists_const, exists_eq_right, exists_eq_right', Bool.not_true, Bool.not_false, if_true, if_false, Bool.false_eq_true, reduceCtorEq, false_and, and_false, decide_true, decide_false, tyM, rdJoin] at k ⊢
        have er : (r.map D.int).map (fun d => match d with | .int i => stI i | _ => Str.empty) = r.map stI := by rw [List.map_map] <;> rfl
        rw [er] at k
        refine dComp_map (fun d => match d with | .int i => D.str (stI i) | _ => .non) trivial (fun d hd K2 k2 => ?_) ?_
        · obtain ⟨i, hi, rfl⟩ := List.mem_map.mp hd
          have hb := hb i hi
          simp only [dRet, dRetN, dSeq, dAsg, dDrop, dIfS, dNext, dBreak, dCont, dPar, dSetL, dSetD, dFor, dVar, dC, dOp, dAndV, dOrV, dNotV, dAnd, dOr, dNot, dIf, dTest, dChain, dNil, dCons, dTup, dLst, dLstM, dStar, dNeg, dCB, dCall, dCallK, dMthT, dMth0, dLc, dYes, dISeq, dIStr, dIEnum, dIZip, dIRng1, dIRng2, dSl, dPart, dNoPart, dRaise, dDisp1, dNewD, dRevL, dRevT, dSortSet, dSortSetL, dIRng3, dGet2, dIKeys, dNewT, dSetT, dLstRg, dPar3, dLcM, dAugL, dSetdT, dDispT, dIItemsT, dIValsT, rdDInP, dFld, dSetF, dMake, dIKeysT, rdIsC, dCntC, dTupC, dSlC, dRevC, dISeqX, dMeth, dMeth0, dSetM, dNewM, lnX_t, lnX_l, srX_t, dLamA, dLamB, gdName, gdTup, gdCons, gdNil, dstart, dwipe, dAug, rdInt, rdSub, rdLt, rdLe, rdGt, rdGe, rdFdiv, rdMod, rdPow, at0, at1, at2, i30, i31, i32, set0, set1, set2, MO.lst.injEq, gup_same, gup_gup, ad_ii, ad_ss, ad_tt, ad_ll, mu_ii, mu_li, mu_ti, ix_t, ix_l, ix_s, ix_r, ix_w, ln_t, ln_l, ln_s, ln_w, ln_r, sr_t, sr_l, sr_s, sr_r, sl_t, sl_l, sl_s, sl_r, sl_w, tu_t, tu_l, tu_r, li_t, li_l, li_r, lm_t, lm_l, mx2, mn2, ab1, in1, is2, rdIsB, rdNotB, rdIsN, rdNotN, TD.isNon, List.map_cons, List.map_nil, List.length_cons, List.length_nil, List.replicate_succ, List.replicate_zero, List.cons_append, List.nil_append, List.append_nil, Nat.zero_add, Nat.reduceAdd, Nat.reduceSub, Nat.sub_self, Nat.add_sub_cancel, List.getElem?_cons_zero, List.getElem?_cons_succ, List.getElem?_nil, List.set_cons_zero, List.set_cons_succ, List.set_nil, Option.some.injEq, D.int.injEq, D.bl.injEq, D.str.injEq, D.ref.injEq, D.ty.injEq, D.tup.injEq, D.lst.injEq, List.cons.injEq, and_true, true_and, ex_two, ex_two', exists_eq_left', exists_eq_left, exists_and_left, exists_and_right, exists_const, exists_eq_right, exists_eq_right', Bool.not_true, Bool.not_false, if_true, if_false, Bool.false_eq_true, reduceCtorEq, false_and, and_false, decide_true, decide_false, rdStrI]
          exact ⟨log_small (by omega) (by omega), k2⟩
        · refine ⟨r.map stI, ?_, ?_, k⟩
          · rw [List.nil_append, List.map_map, List.map_map] <;> rfl
          · have h3 : tot (r.map stI) ≤ 4 * r.length := tot_sts hb
            obtain ⟨j, hj, ej⟩ := List.mem_iff_getElem.mp hr
            have h4 := w.row j r (by rw [List.getElem?_eq_getElem hj, ej])
            have h5 := w.n7
            have e0 : SP.length = 1 := sep_SP.one
            rw [e0, List.length_map]
            unfold tot at h3
            omega
      · refine ⟨t.map rowT, ?_, ?_, h2 t rfl w⟩
        · rw [List.nil_append, List.map_map, List.map_map]
          refine congrArg D.lst (List.map_congr_left fun r hr => ?_)
          show D.str (Txt.join SP ((r.map D.int).map fun d => match d with | .int i => stI i | _ => Str.empty)) = D.str (rowT r)
          have er : (r.map D.int).map (fun d => match d with | .int i => stI i | _ => Str.empty) = r.map stI := by rw [List.map_map] <;> rfl
          rw [er] <;> rfl
        · have h3 := tot_rows (t := t) (n := t.length) (fun j r hj => Nat.le_of_eq (w.row j r hj)) w.bnd
          have h4 := tri_mono w.n7
          have h5 : tri 7 = 28 := by decide
          have h6 := w.n7
          have e0 : NL.length = 1 := sep_NL.one
          rw [e0, List.length_map]
          unfold tot at h3
          omega
  · exact h.elim
/-! ### words -/
theorem val_lt : ∀ (n : Nat) (l : List Nat), l.length = n → AD l → val l < 10 ^ n
  | 0, l, h, _ => by
    rw [List.length_eq_zero_iff.mp h]
    decide
  | n + 1, l, h, ha => by
    have hne : l ≠ [] := fun z => by rw [z] at h; cases h
    obtain ⟨m, d, rfl⟩ : ∃ m d, l = m ++ [d] := ⟨_, _, (List.dropLast_concat_getLast hne).symm⟩
    rw [List.length_append, List.length_singleton] at h
    have ih := val_lt n m (by omega) fun c hc => ha c (List.mem_append_left _ hc)
    have hd := ha d (List.mem_append_right _ (List.mem_singleton.mpr rfl))
    rw [val_snoc, Nat.pow_succ]
    omega
theorem word_small {w : Str} (h : ¬ badWord w) : val (TL.tl w) ≤ 9999 := by
  unfold badWord at h
  have ha : AD (TL.tl w) := Classical.not_not.mp fun z => h (.inr (.inr z))
  have h4 : w.length ≤ 4 := by have : ¬ 4 < w.length := fun z => h (.inr (.inl z)); omega
  have := val_lt _ (TL.tl w) rfl ha
  rw [← TL.len_tl] at this
  have h5 : 10 ^ w.length ≤ 10 ^ 4 := Nat.pow_le_pow_right (by omega) h4
  omega
theorem log_nat {n : Nat} (h : n ≤ 9999) : ((n : Nat) : Int).natAbs.log2 < 1920 := by
  rw [Int.natAbs_natCast]
  by_cases h0 : n = 0
  · subst h0
    decide
  · have := (Nat.log2_lt (k := 14) h0).mpr (by show n < 16384; omega)
    omega
theorem nil_iff (w : Str) : (w = ("" : Str)) ↔ w.length = 0 := by
  constructor
  · rintro rfl
    decide +kernel
  · intro h
    refine TL.ext_tl ?_
    rw [tl_E]
    rw [TL.len_tl] at h
    exact List.length_eq_zero_iff.mp h
theorem nil_dec (w : Str) : decide (w = ("" : Str)) = decide (w.length = 0) := decide_eq_decide.mpr (nil_iff w)
def digD (d : D) : D := match d with
  | .str x => .bl ((TL.tl x).all fun c => decide (48 ≤ c ∧ c ≤ 57))
  | _ => .non
theorem digs_bls (w : Str) : dBls ((signs w).map digD) = some ((TL.tl w).map fun c => decide (48 ≤ c ∧ c ≤ 57)) := by
  unfold signs
  rw [List.map_map]
  have e : (digD ∘ fun c => D.str ⟨#[c]⟩) = fun c => D.bl (decide (48 ≤ c ∧ c ≤ 57)) := by
    funext c
    show D.bl ([c].all fun c => decide (48 ≤ c ∧ c ≤ 57)) = _
    rw [List.all_cons, List.all_nil, Bool.and_true]
  rw [e]
  exact dBls_of_map _ _
theorem digs_all (w : Str) : ((TL.tl w).map fun c => decide (48 ≤ c ∧ c ≤ 57)).all id = decide (AD (TL.tl w)) := by
  rw [all_map_id]
  refine Bool.eq_iff_iff.mpr ?_
  simp only [List.all_eq_true, decide_eq_true_eq]
  rfl
def sp_integer_of (A : Ad) : SpD := fun zs G Q _ => match zs with
  | [.str w] => w.length ≤ sizeLine ∧ Q (intOf w) G
  | _ => False
theorem len_integer_of {A : Ad} {zs : List D} {G : GH} {Q : DK} {x : XD} (h : sp_integer_of A zs G Q x) : zs.length = 1 := by
  unfold sp_integer_of at h
  split at h <;> first | rfl | exact h.elim
def ds_integer_of (A : Ad) : DS := dSeq (dIfS (dOr (dTest (dOp rdEqS (dVar 0) (dC (.str "")))) (dOr (dTest (dOp rdGt (dCB rdLen (dCons (dVar 0) dNil)) (dC (.int 4)))) (dNot (dTest (dCB rdAll (dCons (dLc (dIStr (dVar 0)) (gdName 1) dYes (dOp rdInS (dVar 1) (dC (.str "0123456789"))) [1]) dNil)))))) (dRet (dC .non)) dNext) (dRet (dIf (dTest (dOp rdEqS (dCB rdStrI (dCons (dCB rdIntS (dCons (dVar 0) dNil)) dNil)) (dVar 0))) (dCB rdIntS (dCons (dVar 0) dNil)) (dC .non)))
def N_integer_of : List PySem.Str := ["text", "sign"]
theorem read_integer_of {A : Ad} {zs : List D} {G : GH} {Q : DK} {x : XD} (h : sp_integer_of A zs G Q x) : ds_integer_of A { nx := fun _ G' => Q .non G', rt := Q, xx := fun _ => x } (dstart N_integer_of zs) G := by
  unfold sp_integer_of at h
  split at h
  · rename_i w
    obtain ⟨hl, q⟩ := h
    unfold N_integer_of ds_integer_of
    simp only [dRet, dRetN, dSeq, dAsg, dDrop, dIfS, dNext, dBreak, dCont, dPar, dSetL, dSetD, dFor, dVar, dC, dOp, dAndV, dOrV, dNotV, dAnd, dOr, dNot, dIf, dTest, dChain, dNil, dCons, dTup, dLst, dLstM, dStar, dNeg, dCB, dCall, dCallK, dMthT, dMth0, dLc, dYes, dISeq, dIStr, dIEnum, dIZip, dIRng1, dIRng2, dSl, dPart, dNoPart, dRaise, dDisp1, dNewD, dRevL, dRevT, dSortSet, dSortSetL, dIRng3, dGet2, dIKeys, dNewT, dSetT, dLstRg, dPar3, dLcM, dAugL, dSetdT, dDispT, dIItemsT, dIValsT, rdDInP, dFld, dSetF, dMake, dIKeysT, rdIsC, dCntC, dTupC, dSlC, dRevC, dISeqX, dMeth, dMeth0, dSetM, dNewM, lnX_t, lnX_l, srX_t, dLamA, dLamB, gdName, gdTup, gdCons, gdNil, dstart, dwipe, dAug, rdInt, rdSub, rdLt, rdLe, rdGt, rdGe, rdFdiv, rdMod, rdPow, at0, at1, at2, i30, i31, i32, set0, set1, set2, MO.lst.injEq, gup_same, gup_gup, ad_ii, ad_ss, ad_tt, ad_ll, mu_ii, mu_li, mu_ti, ix_t, ix_l, ix_s, ix_r, ix_w, ln_t, ln_l, ln_s, ln_w, ln_r, sr_t, sr_l, sr_s, sr_r, sl_t, sl_l, sl_s, sl_r, sl_w, tu_t, tu_l, tu_r, li_t, li_l, li_r, lm_t, lm_l, mx2, mn2, ab1, in1, is2, rdIsB, rdNotB, rdIsN, rdNotN, TD.isNon, List.map_cons, List.map_nil, List.length_cons, List.length_nil, List.replicate_succ, List.replicate_zero, List.cons_append, List.nil_append, List.append_nil, Nat.zero_add, Nat.reduceAdd, Nat.reduceSub, Nat.sub_self, Nat.add_sub_cancel, List.getElem?_cons_zero, List.getElem?_cons_succ, List.getElem?_nil, List.set_cons_zero, List.set_cons_succ, List.set_nil, Option.some.injEq, D.int.injEq, D.bl.injEq, D.str.injEq, D.ref.injEq, D.ty.injEq, D.tup.injEq, D.lst.injEq, List.cons.injEq, and_true, true_and, ex_two, ex_two', exists_eq_left', exists_eq_left, exists_and_left, exists_and_right, exists_const, exists_eq_right, exists_eq_right', Bool.not_true, Bool.not_false, if_true, if_false, Bool.false_eq_true, reduceCtorEq, false_and, and_false, decide_true, decide_false, rdEqS]
    rw [nil_dec]
    by_cases c1 : w.length = 0
    · rw [decide_eq_true c1]
      simp only [if_true]
      have e : intOf w = .non := if_pos (.inl (.inl c1))
      rw [← e]
      exact q
    · rw [decide_eq_false c1]
      simp only [Bool.false_eq_true, if_false]
      refine ⟨hl, ?_⟩
      by_cases c2 : 4 < w.length
      · have e2 : (4 : Int) < (w.length : Int) := by omega
        simp only [e2, decide_true, if_true]
        have e : intOf w = .non := if_pos (.inl (.inr (.inl c2)))
        rw [← e]
        exact q
      · have e2 : ¬ (4 : Int) < (w.length : Int) := by omega
        simp only [e2, decide_false, Bool.false_eq_true, if_false]
        refine ⟨hl, ?_⟩
        refine dComp_map digD trivial (fun d hd K1 k => ?_) ?_
        · obtain ⟨c, hc, rfl⟩ := sign_mem hd
          simp only [dRet, dRetN, dSeq, dAsg, dDrop, dIfS, dNext, dBreak, dCont, dPar, dSetL, dSetD, dFor, dVar, dC, dOp, dAndV, dOrV, dNotV, dAnd, dOr, dNot, dIf, dTest, dChain, dNil, dCons, dTup, dLst, dLstM, dStar, dNeg, dCB, dCall, dCallK, dMthT, dMth0, dLc, dYes, dISeq, dIStr, dIEnum, dIZip, dIRng1, dIRng2, dSl, dPart, dNoPart, dRaise, dDisp1, dNewD, dRevL, dRevT, dSortSet, dSortSetL, dIRng3, dGet2, dIKeys, dNewT, dSetT, dLstRg, dPar3, dLcM, dAugL, dSetdT, dDispT, dIItemsT, dIValsT, rdDInP, dFld, dSetF, dMake, dIKeysT, rdIsC, dCntC, dTupC, dSlC, dRevC, dISeqX, dMeth, dMeth0, dSetM, dNewM, lnX_t, lnX_l, srX_t, dLamA, dLamB, gdName, gdTup, gdCons, gdNil, dstart, dwipe, dAug, rdInt, rdSub, rdLt, rdLe, rdGt, rdGe, rdFdiv, rdMod, rdPow, at0, at1, at2, i30, i31, i32, set0, set1, set2, MO.lst.injEq, gup_same, gup_gup, ad_ii, ad_ss, ad_tt, ad_ll, mu_ii, mu_li, mu_ti, ix_t, ix_l, ix_s, ix_r, ix_w, ln_t, ln_l, ln_s, ln_w, ln_r, sr_t, sr_l, sr_s, sr_r, sl_t, sl_l, sl_s, sl_r, sl_w, tu_t, tu_l, tu_r, li_t, li_l, li_r, lm_t, lm_l, mx2, mn2, ab1, in1, is2, rdIsB, rdNotB, rdIsN, rdNotN, TD.isNon, List.map_cons, List.map_nil, List.length_cons, List.length_nil, List.replicate_succ, List.replicate_zero, List.cons_append, List.nil_append, List.append_nil, Nat.zero_add, Nat.reduceAdd, Nat.reduceSub, Nat.sub_self, Nat.add_sub_cancel, List.getElem?_cons_zero, List.getElem?_cons_succ, List.getElem?_nil, List.set_cons_zero, List.set_cons_succ, List.set_nil, Option.some.injEq, D.int.injEq, D.bl.injEq, D.str.injEq, D.ref.injEq, D.ty.injEq, D.tup.injEq, D.lst.injEq, List.cons.injEq, and_true, true_and, ex_two, ex_two', exists_eq_left', exists_eq_left, exists_and_left, exists_and_right, exists_const, exists_eq_right, exists_eq_right', Bool.not_true, Bool.not_false, if_true, if_false, Bool.false_eq_true, reduceCtorEq, false_and, and_false, decide_true, decide_false, rdInS]
          refine ⟨c, rfl, ?_⟩
          have e : digD (.str ⟨#[c]⟩) = .bl (decide (c ∈ ("0123456789" : Str).cps.toList)) := by
            show D.bl ([c].all fun c => decide (48 ≤ c ∧ c ≤ 57)) = _
            rw [List.all_cons, List.all_nil, Bool.and_true, decide_eq_decide.mpr mem_fig]
          rw [← e]
          exact k
        · rw [List.nil_append]
          refine ⟨_, _, rfl, digs_bls w, ?_⟩
          rw [digs_all]
          refine ⟨_, rfl, ?_⟩
          by_cases c3 : AD (TL.tl w)
          · rw [decide_eq_true c3]
            simp only [Bool.not_true, Bool.false_eq_true, if_false]
            have nb : ¬ badWord w := by rintro (z | z | z); exact c1 z; exact c2 z; exact z c3
            simp only [dRet, dRetN, dSeq, dAsg, dDrop, dIfS, dNext, dBreak, dCont, dPar, dSetL, dSetD, dFor, dVar, dC, dOp, dAndV, dOrV, dNotV, dAnd, dOr, dNot, dIf, dTest, dChain, dNil, dCons, dTup, dLst, dLstM, dStar, dNeg, dCB, dCall, dCallK, dMthT, dMth0, dLc, dYes, dISeq, dIStr, dIEnum, dIZip, dIRng1, dIRng2, dSl, dPart, dNoPart, dRaise, dDisp1, dNewD, dRevL, dRevT, dSortSet, dSortSetL, dIRng3, dGet2, dIKeys, dNewT, dSetT, dLstRg, dPar3, dLcM, dAugL, dSetdT, dDispT, dIItemsT, dIValsT, rdDInP, dFld, dSetF, dMake, dIKeysT, rdIsC, dCntC, dTupC, dSlC, dRevC, dISeqX, dMeth, dMeth0, dSetM, dNewM, lnX_t, lnX_l, srX_t, dLamA, dLamB, gdName, gdTup, gdCons, gdNil, dstart, dwipe, dAug, rdInt, rdSub, rdLt, rdLe, rdGt, rdGe, rdFdiv, rdMod, rdPow, at0, at1, at2, i30, i31, i32, set0, set1, set2, MO.lst.injEq, gup_same, gup_gup, ad_ii, ad_ss, ad_tt, ad_ll, mu_ii, mu_li, mu_ti, ix_t, ix_l, ix_s, ix_r, ix_w, ln_t, ln_l, ln_s, ln_w, ln_r, sr_t, sr_l, sr_s, sr_r, sl_t, sl_l, sl_s, sl_r, sl_w, tu_t, tu_l, tu_r, li_t, li_l, li_r, lm_t, lm_l, mx2, mn2, ab1, in1, is2, rdIsB, rdNotB, rdIsN, rdNotN, TD.isNon, List.map_cons, List.map_nil, List.length_cons, List.length_nil, List.replicate_succ, List.replicate_zero, List.cons_append, List.nil_append, List.append_nil, Nat.zero_add, Nat.reduceAdd, Nat.reduceSub, Nat.sub_self, Nat.add_sub_cancel, List.getElem?_cons_zero, List.getElem?_cons_succ, List.getElem?_nil, List.set_cons_zero, List.set_cons_succ, List.set_nil, Option.some.injEq, D.int.injEq, D.bl.injEq, D.str.injEq, D.ref.injEq, D.ty.injEq, D.tup.injEq, D.lst.injEq, List.cons.injEq, and_true, true_and, ex_two, ex_two', exists_eq_left', exists_eq_left, exists_and_left, exists_and_right, exists_const, exists_eq_right, exists_eq_right', Bool.not_true, Bool.not_false, if_true, if_false, Bool.false_eq_true, reduceCtorEq, false_and, and_false, decide_true, decide_false, rdIntS, rdStrI, rdEqS]
            refine ⟨_, word_int nb, by omega, ?_⟩
            have hs := word_small nb
            refine ⟨log_nat hs, ?_⟩
            rw [word_back nb]
            by_cases c4 : zeroHead w
            · rw [decide_eq_true c4]
              simp only [Bool.not_true, Bool.false_eq_true, if_false]
              have e : intOf w = .non := if_pos (.inr c4)
              rw [← e]
              exact q
            · rw [decide_eq_false c4]
              simp only [Bool.not_false, if_true]
              refine ⟨_, word_int nb, by omega, ?_⟩
              have e : intOf w = .int (val (TL.tl w) : Nat) := if_neg (by rintro (z | z); exact nb z; exact c4 z)
              rw [← e]
              exact q
          · rw [decide_eq_false c3]
            simp only [Bool.not_false, if_true]
            have e : intOf w = .non := if_pos (.inl (.inr (.inr c3)))
            rw [← e]
            exact q
  · exact h.elim
end K00
namespace K00
open PySem L2 TD
theorem enum_get : ∀ {xs : List D} {k i : Nat} {d : D}, (dEnum k xs)[i]? = some d → ∃ z, xs[i]? = some z ∧ d = .tup [.int ((k + i : Nat) : Int), z]
  | [], k, i, d, h => by simp [dEnum] at h
  | x :: xs, k, 0, d, h => by
    rw [dEnum] at h
    simp at h
    exact ⟨x, rfl, by rw [← h]; simp⟩
  | x :: xs, k, i + 1, d, h => by
    rw [dEnum] at h
    obtain ⟨z, h1, h2⟩ := enum_get (k := k + 1) (i := i) (by simpa using h)
    exact ⟨z, by simpa using h1, by rw [h2, show k + 1 + i = k + (i + 1) by omega]⟩
theorem enum_len : ∀ (xs : List D) (k : Nat), (dEnum k xs).length = xs.length
  | [], _ => rfl
  | x :: xs, k => by rw [dEnum, List.length_cons, List.length_cons, enum_len xs (k + 1)]
def rowD (line : Str) : D := .tup ((Txt.split line SP).map intOf)
theorem intOf_cases (w : Str) : intOf w = .non ∨ ∃ i, intOf w = .int i := by
  unfold intOf
  split
  · exact .inl rfl
  · exact .inr ⟨_, rfl⟩
theorem row_pur (line : Str) : Pur (rowD line) := by
  unfold Pur rowD
  rw [pureN_tup, List.all_map, List.all_eq_true]
  intro w _
  show pureN 59 (intOf w) = true
  rcases intOf_cases w with h | ⟨i, h⟩ <;> rw [h] <;> rfl
theorem row_in (line : Str) : ((Txt.split line SP).map intOf).all (fun y => isIn y 0 1000) = decide (∀ x ∈ nums line, 0 ≤ x ∧ x ≤ 1000) := by
  rw [List.all_map]
  refine Bool.eq_iff_iff.mpr ?_
  rw [List.all_eq_true, decide_eq_true_eq]
  unfold nums
  constructor
  · intro h x hx
    obtain ⟨w, hw, rfl⟩ := List.mem_map.mp hx
    have := h w hw
    show 0 ≤ numOf w ∧ numOf w ≤ 1000
    have e : isIn (intOf w) 0 1000 = true := this
    rw [int_num_in] at e
    simpa using e
  · intro h w hw
    have := h (numOf w) (List.mem_map_of_mem hw)
    show isIn (intOf w) 0 1000 = true
    rw [int_num_in]
    simpa using this
theorem row_bad {line : Str} {many i : Nat} (hi : i < many) (h : i = 0 ∨ many ≤ 7) :
    areIn (rowD line) ((many : Int) - (i : Int)) (if (7 : Int) < (many : Int) - (i : Int) then 7 else (many : Int) - (i : Int)) 0 1000 = !decide (LineBad many i line) := by
  have e : (nums line).length = (Txt.split line SP).length := by unfold nums; rw [List.length_map]
  have key : (areIn (rowD line) ((many : Int) - (i : Int)) (if (7 : Int) < (many : Int) - (i : Int) then 7 else (many : Int) - (i : Int)) 0 1000 = true) ↔ ¬ LineBad many i line := by
    unfold areIn rowD
    simp only
    rw [row_in, List.length_map, ← e]
    simp only [Bool.and_eq_true, decide_eq_true_eq]
    unfold LineBad
    generalize (nums line).length = n
    constructor
    · rintro ⟨⟨h1, h2⟩, h3⟩ (z | z | z | z)
      · omega
      · split at h2 <;> omega
      · split at h2 <;> omega
      · exact z h3
    · intro z
      have h3 : ∀ x ∈ nums line, 0 ≤ x ∧ x ≤ 1000 := Classical.not_not.mp fun y => z (.inr (.inr (.inr y)))
      have h2 : n = many - i := Classical.not_not.mp fun y => z (.inr (.inr (.inl y)))
      have h1 : ¬ 7 < many := fun y => z (.inr (.inl y))
      refine ⟨⟨by omega, ?_⟩, h3⟩
      split <;> omega
  cases hb : areIn (rowD line) ((many : Int) - (i : Int)) (if (7 : Int) < (many : Int) - (i : Int) then 7 else (many : Int) - (i : Int)) 0 1000 with
  | true => rw [decide_eq_false (key.mp hb)] <;> rfl
  | false =>
    have : LineBad many i line := Classical.not_not.mp fun z => by rw [key.mpr z] at hb; cases hb
    rw [decide_eq_true this] <;> rfl
theorem row_nums {line : Str} {many i : Nat} (h : ¬ LineBad many i line) : rowD line = intsD (nums line) := by
  have h3 : ∀ x ∈ nums line, 0 ≤ x ∧ x ≤ 1000 := Classical.not_not.mp fun y => h (.inr (.inr (.inr y)))
  unfold rowD intsD nums
  rw [List.map_map]
  refine congrArg D.tup (List.map_congr_left fun w hw => ?_)
  exact int_of_num (h3 _ (List.mem_map_of_mem hw)).1
def Res (A : Ad) (x : XD) (Q : DK) (G : GH) : TR → Prop
  | .bad k => BadT A x G (k : Nat)
  | .ok t => Q (tabD t) G
def sp_read_table (A : Ad) : SpD := fun zs G Q x => match zs with
  | [.str w] => w.length ≤ 100000 ∧ (¬ w.length ≤ 1000 → BadT A x G 0) ∧ (w.length ≤ 1000 → ∀ G', Ext G G' → Res A x Q G' (tblR w))
  | [z] => NotS z ∧ BadT A x G 0
  | _ => False
theorem len_read_table {A : Ad} {zs : List D} {G : GH} {Q : DK} {x : XD} (h : sp_read_table A zs G Q x) : zs.length = 1 := by
  unfold sp_read_table at h
  split at h <;> first | rfl | exact h.elim
def ds_read_table (A : Ad) : DS := dSeq (dDrop (dCall (sp_demand_text A) (dCons (dVar 0) dNil))) (dSeq (dPar 1 2 (dMthT "str" rdSplit (dVar 0) (dCons (dC (.str "\n")) dNil)) (dLstM dNil)) (dSeq (dAsg (dCB rdLen (dCons (dMthT "str" rdSplit (dOp rdIx (dVar 1) (dC (.int 0))) (dCons (dC (.str " ")) dNil)) dNil)) (gdName 3)) (dSeq (dFor (dIEnum (dCons (dVar 1) dNil)) (gdTup (gdCons (gdName 4) (gdCons (gdName 5) gdNil)) 2) (dSeq (dAsg (dCB rdTuple (dCons (dLc (dISeq (dMthT "str" rdSplit (dVar 5) (dCons (dC (.str " ")) dNil))) (gdName 6) dYes (dCall (sp_integer_of A) (dCons (dVar 6) dNil)) [6]) dNil)) (gdName 7)) (dSeq (dIfS (dOr (dTest (dOp rdGe (dVar 4) (dVar 3))) (dNot (dTest (dCall (sp_are_in A) (dCons (dVar 7) (dCons (dOp rdSub (dVar 3) (dVar 4)) (dCons (dCB rdMin2 (dCons (dOp rdSub (dVar 3) (dVar 4)) (dCons (dOp rdSub (dC (.int 8)) (dC (.int 1))) dNil))) (dCons (dC (.int 0)) (dCons (dC (.int 1000)) dNil))))))))) (dRaise A.cTxt (ErrX.EF.fld .line) (dOp rdAdd (dVar 4) (dC (.int 1)))) dNext) (dDrop (dMthT "list" rdAppend (dVar 2) (dCons (dVar 7) dNil)))))) (dSeq (dIfS (dTest (dOp rdLt (dCB rdLen (dCons (dVar 2) dNil)) (dVar 3))) (dRaise A.cTxt (ErrX.EF.fld .line) (dOp rdAdd (dCB rdLen (dCons (dVar 2) dNil)) (dC (.int 1)))) dNext) (dRet (dCB rdTuple (dCons (dVar 2) dNil)))))))
def N_read_table : List PySem.Str := ["text", "lines", "found", "many", "at", "line", "word", "row"]
theorem first_line (w : Str) : ((Txt.split w NL).map D.str)[0]? = some (.str ((Txt.split w NL).getD 0 Str.empty)) := by
  have h := split_pos (x := w) sep_NL
  rw [List.getElem?_map, List.getElem?_eq_getElem (by omega), List.getD_eq_getElem?_getD, List.getElem?_eq_getElem (by omega)] <;> rfl
theorem first_mem (w : Str) : (Txt.split w NL).getD 0 Str.empty ∈ Txt.split w NL := by
  have h := split_pos (x := w) sep_NL
  rw [List.getD_eq_getElem?_getD, List.getElem?_eq_getElem (by omega)]
  exact List.getElem_mem _
theorem many_le (w : Str) : manyOf w ≤ w.length + 1 := by
  have h1 : manyOf w ≤ ((Txt.split w NL).getD 0 Str.empty).length + 1 := split_len sep_SP
  have h2 := split_part_len sep_NL (first_mem w)
  omega
theorem sz5 {n : Nat} (h : n ≤ 200000) : n ≤ sizeLine := by rw [sizeLine_eq]; omega
theorem ext_new {G : GH} {p : Addr} {m : MO} (h : G p = none) : Ext G (gup G p m) := fun b μ hb => by
  rw [gup_ne fun z => by rw [z, h] at hb; cases hb]
  exact hb
theorem read_read_table {A : Ad} {zs : List D} {G : GH} {Q : DK} {x : XD} (h : sp_read_table A zs G Q x) : ds_read_table A { nx := fun _ G' => Q .non G', rt := Q, xx := fun _ => x } (dstart N_read_table zs) G := by
  unfold sp_read_table at h
  split at h
  · rename_i w
    obtain ⟨hl, h1, h2⟩ := h
    unfold N_read_table ds_read_table
    simp only [dRet, dRetN, dSeq, dAsg, dDrop, dIfS, dNext, dBreak, dCont, dPar, dSetL, dSetD, dFor, dVar, dC, dOp, dAndV, dOrV, dNotV, dAnd, dOr, dNot, dIf, dTest, dChain, dNil, dCons, dTup, dLst, dLstM, dStar, dNeg, dCB, dCall, dCallK, dMthT, dMth0, dLc, dYes, dISeq, dIStr, dIEnum, dIZip, dIRng1, dIRng2, dSl, dPart, dNoPart, dRaise, dDisp1, dNewD, dRevL, dRevT, dSortSet, dSortSetL, dIRng3, dGet2, dIKeys, dNewT, dSetT, dLstRg, dPar3, dLcM, dAugL, dSetdT, dDispT, dIItemsT, dIValsT, rdDInP, dFld, dSetF, dMake, dIKeysT, rdIsC, dCntC, dTupC, dSlC, dRevC, dISeqX, dMeth, dMeth0, dSetM, dNewM, lnX_t, lnX_l, srX_t, dLamA, dLamB, gdName, gdTup, gdCons, gdNil, dstart, dwipe, dAug, rdInt, rdSub, rdLt, rdLe, rdGt, rdGe, rdFdiv, rdMod, rdPow, at0, at1, at2, i30, i31, i32, set0, set1, set2, MO.lst.injEq, gup_same, gup_gup, ad_ii, ad_ss, ad_tt, ad_ll, mu_ii, mu_li, mu_ti, ix_t, ix_l, ix_s, ix_r, ix_w, ln_t, ln_l, ln_s, ln_w, ln_r, sr_t, sr_l, sr_s, sr_r, sl_t, sl_l, sl_s, sl_r, sl_w, tu_t, tu_l, tu_r, li_t, li_l, li_r, lm_t, lm_l, mx2, mn2, ab1, in1, is2, rdIsB, rdNotB, rdIsN, rdNotN, TD.isNon, List.map_cons, List.map_nil, List.length_cons, List.length_nil, List.replicate_succ, List.replicate_zero, List.cons_append, List.nil_append, List.append_nil, Nat.zero_add, Nat.reduceAdd, Nat.reduceSub, Nat.sub_self, Nat.add_sub_cancel, List.getElem?_cons_zero, List.getElem?_cons_succ, List.getElem?_nil, List.set_cons_zero, List.set_cons_succ, List.set_nil, Option.some.injEq, D.int.injEq, D.bl.injEq, D.str.injEq, D.ref.injEq, D.ty.injEq, D.tup.injEq, D.lst.injEq, List.cons.injEq, and_true, true_and, ex_two, ex_two', exists_eq_left', exists_eq_left, exists_and_left, exists_and_right, exists_const, exists_eq_right, exists_eq_right', Bool.not_true, Bool.not_false, if_true, if_false, Bool.false_eq_true, reduceCtorEq, false_and, and_false, decide_true, decide_false]
    refine ⟨sz5 (by omega), fun c => ?_, h1⟩
    have hM := many_le w
    have hL := split_len (x := w) sep_NL
    simp only [dRet, dRetN, dSeq, dAsg, dDrop, dIfS, dNext, dBreak, dCont, dPar, dSetL, dSetD, dFor, dVar, dC, dOp, dAndV, dOrV, dNotV, dAnd, dOr, dNot, dIf, dTest, dChain, dNil, dCons, dTup, dLst, dLstM, dStar, dNeg, dCB, dCall, dCallK, dMthT, dMth0, dLc, dYes, dISeq, dIStr, dIEnum, dIZip, dIRng1, dIRng2, dSl, dPart, dNoPart, dRaise, dDisp1, dNewD, dRevL, dRevT, dSortSet, dSortSetL, dIRng3, dGet2, dIKeys, dNewT, dSetT, dLstRg, dPar3, dLcM, dAugL, dSetdT, dDispT, dIItemsT, dIValsT, rdDInP, dFld, dSetF, dMake, dIKeysT, rdIsC, dCntC, dTupC, dSlC, dRevC, dISeqX, dMeth, dMeth0, dSetM, dNewM, lnX_t, lnX_l, srX_t, dLamA, dLamB, gdName, gdTup, gdCons, gdNil, dstart, dwipe, dAug, rdInt, rdSub, rdLt, rdLe, rdGt, rdGe, rdFdiv, rdMod, rdPow, at0, at1, at2, i30, i31, i32, set0, set1, set2, MO.lst.injEq, gup_same, gup_gup, ad_ii, ad_ss, ad_tt, ad_ll, mu_ii, mu_li, mu_ti, ix_t, ix_l, ix_s, ix_r, ix_w, ln_t, ln_l, ln_s, ln_w, ln_r, sr_t, sr_l, sr_s, sr_r, sl_t, sl_l, sl_s, sl_r, sl_w, tu_t, tu_l, tu_r, li_t, li_l, li_r, lm_t, lm_l, mx2, mn2, ab1, in1, is2, rdIsB, rdNotB, rdIsN, rdNotN, TD.isNon, List.map_cons, List.map_nil, List.length_cons, List.length_nil, List.replicate_succ, List.replicate_zero, List.cons_append, List.nil_append, List.append_nil, Nat.zero_add, Nat.reduceAdd, Nat.reduceSub, Nat.sub_self, Nat.add_sub_cancel, List.getElem?_cons_zero, List.getElem?_cons_succ, List.getElem?_nil, List.set_cons_zero, List.set_cons_succ, List.set_nil, Option.some.injEq, D.int.injEq, D.bl.injEq, D.str.injEq, D.ref.injEq, D.ty.injEq, D.tup.injEq, D.lst.injEq, List.cons.injEq, and_true, true_and, ex_two, ex_two', exists_eq_left', exists_eq_left, exists_and_left, exists_and_right, exists_const, exists_eq_right, exists_eq_right', Bool.not_true, Bool.not_false, if_true, if_false, Bool.false_eq_true, reduceCtorEq, false_and, and_false, decide_true, decide_false, tyM, rdSplit]
    refine ⟨by decide +kernel, sz5 (by omega), sz5 (by omega), fun p hp => ?_⟩
    refine ⟨_, atI_nat (j := 0) (first_line w), ?_⟩
    have hF := split_part_len sep_NL (first_mem w)
    simp only [dRet, dRetN, dSeq, dAsg, dDrop, dIfS, dNext, dBreak, dCont, dPar, dSetL, dSetD, dFor, dVar, dC, dOp, dAndV, dOrV, dNotV, dAnd, dOr, dNot, dIf, dTest, dChain, dNil, dCons, dTup, dLst, dLstM, dStar, dNeg, dCB, dCall, dCallK, dMthT, dMth0, dLc, dYes, dISeq, dIStr, dIEnum, dIZip, dIRng1, dIRng2, dSl, dPart, dNoPart, dRaise, dDisp1, dNewD, dRevL, dRevT, dSortSet, dSortSetL, dIRng3, dGet2, dIKeys, dNewT, dSetT, dLstRg, dPar3, dLcM, dAugL, dSetdT, dDispT, dIItemsT, dIValsT, rdDInP, dFld, dSetF, dMake, dIKeysT, rdIsC, dCntC, dTupC, dSlC, dRevC, dISeqX, dMeth, dMeth0, dSetM, dNewM, lnX_t, lnX_l, srX_t, dLamA, dLamB, gdName, gdTup, gdCons, gdNil, dstart, dwipe, dAug, rdInt, rdSub, rdLt, rdLe, rdGt, rdGe, rdFdiv, rdMod, rdPow, at0, at1, at2, i30, i31, i32, set0, set1, set2, MO.lst.injEq, gup_same, gup_gup, ad_ii, ad_ss, ad_tt, ad_ll, mu_ii, mu_li, mu_ti, ix_t, ix_l, ix_s, ix_r, ix_w, ln_t, ln_l, ln_s, ln_w, ln_r, sr_t, sr_l, sr_s, sr_r, sl_t, sl_l, sl_s, sl_r, sl_w, tu_t, tu_l, tu_r, li_t, li_l, li_r, lm_t, lm_l, mx2, mn2, ab1, in1, is2, rdIsB, rdNotB, rdIsN, rdNotN, TD.isNon, List.map_cons, List.map_nil, List.length_cons, List.length_nil, List.replicate_succ, List.replicate_zero, List.cons_append, List.nil_append, List.append_nil, Nat.zero_add, Nat.reduceAdd, Nat.reduceSub, Nat.sub_self, Nat.add_sub_cancel, List.getElem?_cons_zero, List.getElem?_cons_succ, List.getElem?_nil, List.set_cons_zero, List.set_cons_succ, List.set_nil, Option.some.injEq, D.int.injEq, D.bl.injEq, D.str.injEq, D.ref.injEq, D.ty.injEq, D.tup.injEq, D.lst.injEq, List.cons.injEq, and_true, true_and, ex_two, ex_two', exists_eq_left', exists_eq_left, exists_and_left, exists_and_right, exists_const, exists_eq_right, exists_eq_right', Bool.not_true, Bool.not_false, if_true, if_false, Bool.false_eq_true, reduceCtorEq, false_and, and_false, decide_true, decide_false, List.length_map]
    refine ⟨by decide +kernel, sz5 (by omega), ?_⟩
    refine dLoop_inv (fun i ρ G' => ∃ acc o4 o5 o6 o7, ρ = [some (.str w), some (.lst ((Txt.split w NL).map D.str)), some (.ref p), some (.int (manyOf w : Nat)), o4, o5, o6, o7] ∧ acc.length = i ∧ (i = 0 ∨ manyOf w ≤ 7) ∧ G' = gup G p (.lst (acc.map intsD)) ∧ tblR w = go (manyOf w) i ((Txt.split w NL).drop i) acc) 0
      ⟨[], none, none, none, none, rfl, rfl, .inl rfl, rfl, rfl⟩ (fun _ _ _ _ _ _ => trivial) (fun i dd ρ G' hi hI K1 hK => ?_) (fun ρ G' hI => ?_)
    · obtain ⟨acc, o4, o5, o6, o7, rfl, ha, hs, rfl, hg⟩ := hI
      rw [Nat.zero_add] at *
      obtain ⟨z, hz, rfl⟩ := enum_get hi
      rw [List.getElem?_map] at hz
      obtain ⟨line, hln, rfl⟩ := Option.map_eq_some_iff.mp hz
      rw [Nat.zero_add] at *
      have hd : (Txt.split w NL).drop i = line :: (Txt.split w NL).drop (i + 1) := by
        obtain ⟨hlt, e⟩ := List.getElem?_eq_some_iff.mp hln
        rw [List.drop_eq_getElem_cons hlt, e]
      rw [hd] at hg
      have hlm := split_part_len sep_NL (List.mem_of_getElem? hln)
      simp only [dRet, dRetN, dSeq, dAsg, dDrop, dIfS, dNext, dBreak, dCont, dPar, dSetL, dSetD, dFor, dVar, dC, dOp, dAndV, dOrV, dNotV, dAnd, dOr, dNot, dIf, dTest, dChain, dNil, dCons, dTup, dLst, dLstM, dStar, dNeg, dCB, dCall, dCallK, dMthT, dMth0, dLc, dYes, dISeq, dIStr, dIEnum, dIZip, dIRng1, dIRng2, dSl, dPart, dNoPart, dRaise, dDisp1, dNewD, dRevL, dRevT, dSortSet, dSortSetL, dIRng3, dGet2, dIKeys, dNewT, dSetT, dLstRg, dPar3, dLcM, dAugL, dSetdT, dDispT, dIItemsT, dIValsT, rdDInP, dFld, dSetF, dMake, dIKeysT, rdIsC, dCntC, dTupC, dSlC, dRevC, dISeqX, dMeth, dMeth0, dSetM, dNewM, lnX_t, lnX_l, srX_t, dLamA, dLamB, gdName, gdTup, gdCons, gdNil, dstart, dwipe, dAug, rdInt, rdSub, rdLt, rdLe, rdGt, rdGe, rdFdiv, rdMod, rdPow, at0, at1, at2, i30, i31, i32, set0, set1, set2, MO.lst.injEq, gup_same, gup_gup, ad_ii, ad_ss, ad_tt, ad_ll, mu_ii, mu_li, mu_ti, ix_t, ix_l, ix_s, ix_r, ix_w, ln_t, ln_l, ln_s, ln_w, ln_r, sr_t, sr_l, sr_s, sr_r, sl_t, sl_l, sl_s, sl_r, sl_w, tu_t, tu_l, tu_r, li_t, li_l, li_r, lm_t, lm_l, mx2, mn2, ab1, in1, is2, rdIsB, rdNotB, rdIsN, rdNotN, TD.isNon, List.map_cons, List.map_nil, List.length_cons, List.length_nil, List.replicate_succ, List.replicate_zero, List.cons_append, List.nil_append, List.append_nil, Nat.zero_add, Nat.reduceAdd, Nat.reduceSub, Nat.sub_self, Nat.add_sub_cancel, List.getElem?_cons_zero, List.getElem?_cons_succ, List.getElem?_nil, List.set_cons_zero, List.set_cons_succ, List.set_nil, Option.some.injEq, D.int.injEq, D.bl.injEq, D.str.injEq, D.ref.injEq, D.ty.injEq, D.tup.injEq, D.lst.injEq, List.cons.injEq, and_true, true_and, ex_two, ex_two', exists_eq_left', exists_eq_left, exists_and_left, exists_and_right, exists_const, exists_eq_right, exists_eq_right', Bool.not_true, Bool.not_false, if_true, if_false, Bool.false_eq_true, reduceCtorEq, false_and, and_false, decide_true, decide_false, tyM, rdSplit]
      refine ⟨by decide +kernel, sz5 (by omega), ?_⟩
      refine dComp_map (fun d => match d with | .str x => intOf x | _ => .non) trivial (fun d hd K2 k2 => ?_) ?_
      · obtain ⟨x, hx, rfl⟩ := List.mem_map.mp hd
        have := split_part_len sep_SP hx
        simp only [dRet, dRetN, dSeq, dAsg, dDrop, dIfS, dNext, dBreak, dCont, dPar, dSetL, dSetD, dFor, dVar, dC, dOp, dAndV, dOrV, dNotV, dAnd, dOr, dNot, dIf, dTest, dChain, dNil, dCons, dTup, dLst, dLstM, dStar, dNeg, dCB, dCall, dCallK, dMthT, dMth0, dLc, dYes, dISeq, dIStr, dIEnum, dIZip, dIRng1, dIRng2, dSl, dPart, dNoPart, dRaise, dDisp1, dNewD, dRevL, dRevT, dSortSet, dSortSetL, dIRng3, dGet2, dIKeys, dNewT, dSetT, dLstRg, dPar3, dLcM, dAugL, dSetdT, dDispT, dIItemsT, dIValsT, rdDInP, dFld, dSetF, dMake, dIKeysT, rdIsC, dCntC, dTupC, dSlC, dRevC, dISeqX, dMeth, dMeth0, dSetM, dNewM, lnX_t, lnX_l, srX_t, dLamA, dLamB, gdName, gdTup, gdCons, gdNil, dstart, dwipe, dAug, rdInt, rdSub, rdLt, rdLe, rdGt, rdGe, rdFdiv, rdMod, rdPow, at0, at1, at2, i30, i31, i32, set0, set1, set2, MO.lst.injEq, gup_same, gup_gup, ad_ii, ad_ss, ad_tt, ad_ll, mu_ii, mu_li, mu_ti, ix_t, ix_l, ix_s, ix_r, ix_w, ln_t, ln_l, ln_s, ln_w, ln_r, sr_t, sr_l, sr_s, sr_r, sl_t, sl_l, sl_s, sl_r, sl_w, tu_t, tu_l, tu_r, li_t, li_l, li_r, lm_t, lm_l, mx2, mn2, ab1, in1, is2, rdIsB, rdNotB, rdIsN, rdNotN, TD.isNon, List.map_cons, List.map_nil, List.length_cons, List.length_nil, List.replicate_succ, List.replicate_zero, List.cons_append, List.nil_append, List.append_nil, Nat.zero_add, Nat.reduceAdd, Nat.reduceSub, Nat.sub_self, Nat.add_sub_cancel, List.getElem?_cons_zero, List.getElem?_cons_succ, List.getElem?_nil, List.set_cons_zero, List.set_cons_succ, List.set_nil, Option.some.injEq, D.int.injEq, D.bl.injEq, D.str.injEq, D.ref.injEq, D.ty.injEq, D.tup.injEq, D.lst.injEq, List.cons.injEq, and_true, true_and, ex_two, ex_two', exists_eq_left', exists_eq_left, exists_and_left, exists_and_right, exists_const, exists_eq_right, exists_eq_right', Bool.not_true, Bool.not_false, if_true, if_false, Bool.false_eq_true, reduceCtorEq, false_and, and_false, decide_true, decide_false, sp_integer_of]
        exact ⟨sz5 (by omega), k2⟩
      · have er : ([] ++ ((Txt.split line SP).map D.str).map fun d => match d with | .str x => intOf x | _ => .non) = (Txt.split line SP).map intOf := by
          rw [List.nil_append, List.map_map] <;> rfl
        rw [er]
        have fin : LineBad (manyOf w) i line → BadT A x (gup G p (.lst (acc.map intsD))) ((i : Int) + 1) := fun hb => by
          unfold go at hg
          rw [if_pos hb] at hg
          have q := h2 c (gup G p (.lst (acc.map intsD))) (ext_new hp)
          rw [hg] at q
          exact q
        simp only [dRet, dRetN, dSeq, dAsg, dDrop, dIfS, dNext, dBreak, dCont, dPar, dSetL, dSetD, dFor, dVar, dC, dOp, dAndV, dOrV, dNotV, dAnd, dOr, dNot, dIf, dTest, dChain, dNil, dCons, dTup, dLst, dLstM, dStar, dNeg, dCB, dCall, dCallK, dMthT, dMth0, dLc, dYes, dISeq, dIStr, dIEnum, dIZip, dIRng1, dIRng2, dSl, dPart, dNoPart, dRaise, dDisp1, dNewD, dRevL, dRevT, dSortSet, dSortSetL, dIRng3, dGet2, dIKeys, dNewT, dSetT, dLstRg, dPar3, dLcM, dAugL, dSetdT, dDispT, dIItemsT, dIValsT, rdDInP, dFld, dSetF, dMake, dIKeysT, rdIsC, dCntC, dTupC, dSlC, dRevC, dISeqX, dMeth, dMeth0, dSetM, dNewM, lnX_t, lnX_l, srX_t, dLamA, dLamB, gdName, gdTup, gdCons, gdNil, dstart, dwipe, dAug, rdInt, rdSub, rdLt, rdLe, rdGt, rdGe, rdFdiv, rdMod, rdPow, at0, at1, at2, i30, i31, i32, set0, set1, set2, MO.lst.injEq, gup_same, gup_gup, ad_ii, ad_ss, ad_tt, ad_ll, mu_ii, mu_li, mu_ti, ix_t, ix_l, ix_s, ix_r, ix_w, ln_t, ln_l, ln_s, ln_w, ln_r, sr_t, sr_l, sr_s, sr_r, sl_t, sl_l, sl_s, sl_r, sl_w, tu_t, tu_l, tu_r, li_t, li_l, li_r, lm_t, lm_l, mx2, mn2, ab1, in1, is2, rdIsB, rdNotB, rdIsN, rdNotN, TD.isNon, List.map_cons, List.map_nil, List.length_cons, List.length_nil, List.replicate_succ, List.replicate_zero, List.cons_append, List.nil_append, List.append_nil, Nat.zero_add, Nat.reduceAdd, Nat.reduceSub, Nat.sub_self, Nat.add_sub_cancel, List.getElem?_cons_zero, List.getElem?_cons_succ, List.getElem?_nil, List.set_cons_zero, List.set_cons_succ, List.set_nil, Option.some.injEq, D.int.injEq, D.bl.injEq, D.str.injEq, D.ref.injEq, D.ty.injEq, D.tup.injEq, D.lst.injEq, List.cons.injEq, and_true, true_and, ex_two, ex_two', exists_eq_left', exists_eq_left, exists_and_left, exists_and_right, exists_const, exists_eq_right, exists_eq_right', Bool.not_true, Bool.not_false, if_true, if_false, Bool.false_eq_true, reduceCtorEq, false_and, and_false, decide_true, decide_false, sp_are_in]
        by_cases c1 : manyOf w ≤ i
        · have e1 : ((manyOf w : Nat) : Int) ≤ (i : Int) := by omega
          simp only [e1, decide_true, if_true]
          exact fin (.inl c1)
        · have e1 : ¬ ((manyOf w : Nat) : Int) ≤ (i : Int) := by omega
          simp only [e1, decide_false, Bool.false_eq_true, if_false]
          rw [show (8 : Int) - 1 = 7 from rfl]
          refine ⟨row_pur line, ?_⟩
          have eb := row_bad (line := line) (many := manyOf w) (i := i) (by omega) hs
          unfold rowD at eb
          rw [eb]
          by_cases c2 : LineBad (manyOf w) i line
          · rw [decide_eq_true c2]
            simp only [Bool.not_true, Bool.not_false, if_true]
            exact fin c2
          · rw [decide_eq_false c2]
            simp only [Bool.not_true, Bool.not_false, Bool.false_eq_true, if_false]
            have en := row_nums c2
            unfold rowD at en
            rw [en]
            have c3 := c2
            unfold LineBad at c3
            refine ⟨.inl ⟨_, rfl⟩, p, _, _, rfl, rfl, gup_same, ?_, ?_⟩
            · rw [List.length_map]
              have := sz5 (n := 200000) (by omega)
              omega
            · rw [gup_gup]
              refine hK _ _ ⟨acc ++ [nums line], _, _, _, _, rfl, by rw [List.length_append, ha] <;> rfl, .inr (by omega), by rw [List.map_append] <;> rfl, ?_⟩
              rw [hg]
              show (if LineBad (manyOf w) i line then TR.bad (i + 1) else _) = _
              rw [if_neg c2]
    · obtain ⟨acc, o4, o5, o6, o7, rfl, ha, hs, rfl, hg⟩ := hI
      rw [enum_len, List.length_map, Nat.zero_add] at *
      rw [List.drop_length] at hg
      have q := h2 c (gup G p (.lst (acc.map intsD))) (ext_new hp)
      rw [hg] at q
      unfold go at q
      simp only [dRet, dRetN, dSeq, dAsg, dDrop, dIfS, dNext, dBreak, dCont, dPar, dSetL, dSetD, dFor, dVar, dC, dOp, dAndV, dOrV, dNotV, dAnd, dOr, dNot, dIf, dTest, dChain, dNil, dCons, dTup, dLst, dLstM, dStar, dNeg, dCB, dCall, dCallK, dMthT, dMth0, dLc, dYes, dISeq, dIStr, dIEnum, dIZip, dIRng1, dIRng2, dSl, dPart, dNoPart, dRaise, dDisp1, dNewD, dRevL, dRevT, dSortSet, dSortSetL, dIRng3, dGet2, dIKeys, dNewT, dSetT, dLstRg, dPar3, dLcM, dAugL, dSetdT, dDispT, dIItemsT, dIValsT, rdDInP, dFld, dSetF, dMake, dIKeysT, rdIsC, dCntC, dTupC, dSlC, dRevC, dISeqX, dMeth, dMeth0, dSetM, dNewM, lnX_t, lnX_l, srX_t, dLamA, dLamB, gdName, gdTup, gdCons, gdNil, dstart, dwipe, dAug, rdInt, rdSub, rdLt, rdLe, rdGt, rdGe, rdFdiv, rdMod, rdPow, at0, at1, at2, i30, i31, i32, set0, set1, set2, MO.lst.injEq, gup_same, gup_gup, ad_ii, ad_ss, ad_tt, ad_ll, mu_ii, mu_li, mu_ti, ix_t, ix_l, ix_s, ix_r, ix_w, ln_t, ln_l, ln_s, ln_w, ln_r, sr_t, sr_l, sr_s, sr_r, sl_t, sl_l, sl_s, sl_r, sl_w, tu_t, tu_l, tu_r, li_t, li_l, li_r, lm_t, lm_l, mx2, mn2, ab1, in1, is2, rdIsB, rdNotB, rdIsN, rdNotN, TD.isNon, List.map_cons, List.map_nil, List.length_cons, List.length_nil, List.replicate_succ, List.replicate_zero, List.cons_append, List.nil_append, List.append_nil, Nat.zero_add, Nat.reduceAdd, Nat.reduceSub, Nat.sub_self, Nat.add_sub_cancel, List.getElem?_cons_zero, List.getElem?_cons_succ, List.getElem?_nil, List.set_cons_zero, List.set_cons_succ, List.set_nil, Option.some.injEq, D.int.injEq, D.bl.injEq, D.str.injEq, D.ref.injEq, D.ty.injEq, D.tup.injEq, D.lst.injEq, List.cons.injEq, and_true, true_and, ex_two, ex_two', exists_eq_left', exists_eq_left, exists_and_left, exists_and_right, exists_const, exists_eq_right, exists_eq_right', Bool.not_true, Bool.not_false, if_true, if_false, Bool.false_eq_true, reduceCtorEq, false_and, and_false, decide_true, decide_false, List.length_map]
      by_cases c1 : acc.length < manyOf w
      · have e1 : (acc.length : Int) < ((manyOf w : Nat) : Int) := by omega
        rw [if_pos c1] at q
        simp only [e1, decide_true, if_true]
        exact q
      · have e1 : ¬ (acc.length : Int) < ((manyOf w : Nat) : Int) := by omega
        rw [if_neg c1] at q
        simp only [e1, decide_false, Bool.false_eq_true, if_false]
        exact q
  · rename_i z _
    unfold N_read_table ds_read_table
    simp only [dRet, dRetN, dSeq, dAsg, dDrop, dIfS, dNext, dBreak, dCont, dPar, dSetL, dSetD, dFor, dVar, dC, dOp, dAndV, dOrV, dNotV, dAnd, dOr, dNot, dIf, dTest, dChain, dNil, dCons, dTup, dLst, dLstM, dStar, dNeg, dCB, dCall, dCallK, dMthT, dMth0, dLc, dYes, dISeq, dIStr, dIEnum, dIZip, dIRng1, dIRng2, dSl, dPart, dNoPart, dRaise, dDisp1, dNewD, dRevL, dRevT, dSortSet, dSortSetL, dIRng3, dGet2, dIKeys, dNewT, dSetT, dLstRg, dPar3, dLcM, dAugL, dSetdT, dDispT, dIItemsT, dIValsT, rdDInP, dFld, dSetF, dMake, dIKeysT, rdIsC, dCntC, dTupC, dSlC, dRevC, dISeqX, dMeth, dMeth0, dSetM, dNewM, lnX_t, lnX_l, srX_t, dLamA, dLamB, gdName, gdTup, gdCons, gdNil, dstart, dwipe, dAug, rdInt, rdSub, rdLt, rdLe, rdGt, rdGe, rdFdiv, rdMod, rdPow, at0, at1, at2, i30, i31, i32, set0, set1, set2, MO.lst.injEq, gup_same, gup_gup, ad_ii, ad_ss, ad_tt, ad_ll, mu_ii, mu_li, mu_ti, ix_t, ix_l, ix_s, ix_r, ix_w, ln_t, ln_l, ln_s, ln_w, ln_r, sr_t, sr_l, sr_s, sr_r, sl_t, sl_l, sl_s, sl_r, sl_w, tu_t, tu_l, tu_r, li_t, li_l, li_r, lm_t, lm_l, mx2, mn2, ab1, in1, is2, rdIsB, rdNotB, rdIsN, rdNotN, TD.isNon, List.map_cons, List.map_nil, List.length_cons, List.length_nil, List.replicate_succ, List.replicate_zero, List.cons_append, List.nil_append, List.append_nil, Nat.zero_add, Nat.reduceAdd, Nat.reduceSub, Nat.sub_self, Nat.add_sub_cancel, List.getElem?_cons_zero, List.getElem?_cons_succ, List.getElem?_nil, List.set_cons_zero, List.set_cons_succ, List.set_nil, Option.some.injEq, D.int.injEq, D.bl.injEq, D.str.injEq, D.ref.injEq, D.ty.injEq, D.tup.injEq, D.lst.injEq, List.cons.injEq, and_true, true_and, ex_two, ex_two', exists_eq_left', exists_eq_left, exists_and_left, exists_and_right, exists_const, exists_eq_right, exists_eq_right', Bool.not_true, Bool.not_false, if_true, if_false, Bool.false_eq_true, reduceCtorEq, false_and, and_false, decide_true, decide_false]
    exact demand_no h.1 h.2
  · exact h.elim
end K00
namespace K00
open PySem L2 TD
theorem ne_nil {xs : List D} {G : GH} {Q : DK} (h : ∀ x ∈ xs, pureN 58 x = true) (q : Q (.bl (!xs.isEmpty)) G) : rdNe (.lst xs) (.lst []) G Q := by
  refine ⟨59, by omega, ?_, rfl, ?_⟩
  · rw [pureN_lst, List.all_eq_true]
    exact h
  · have e : deq (.lst xs) (.lst []) = xs.isEmpty := by
      cases xs with
      | nil => rfl
      | cons a r => rfl
    rw [e]
    exact q
theorem ne_ints {a b : Int} {G : GH} {Q : DK} (q : Q (.bl (!decide (a = b))) G) : rdNe (.int a) (.int b) G Q := by
  refine ⟨0, by omega, rfl, rfl, ?_⟩
  rw [deq_ii]
  exact q
theorem eq_ints {a b : Int} {G : GH} {Q : DK} (q : Q (.bl (decide (a = b))) G) : rdEq (.int a) (.int b) G Q := by
  refine ⟨0, by omega, rfl, rfl, ?_⟩
  rw [deq_ii]
  exact q
/-- the signs that are not as wanted -/
def outD (ok : Nat → Bool) (d : D) : Bool := match d with
  | .str x => !((TL.tl x).all ok)
  | _ => false
theorem out_one (ok : Nat → Bool) (c : Nat) : outD ok (.str ⟨#[c]⟩) = !ok c := by
  show (!([c].all ok)) = _
  rw [List.all_cons, List.all_nil, Bool.and_true]
theorem out_nil (ok : Nat → Bool) (w : Str) : (!(((signs w).filter (outD ok)).map id).isEmpty) = !((TL.tl w).all ok) := by
  rw [List.map_id]
  unfold signs
  have : ∀ l : List Nat, ((l.map fun c => D.str ⟨#[c]⟩).filter (outD ok)).isEmpty = l.all ok := by
    intro l
    induction l with
    | nil => rfl
    | cons c r ih =>
      rw [List.map_cons, List.filter_cons, out_one, List.all_cons]
      cases ok c with
      | true => simpa using ih
      | false => rfl
  rw [this]
theorem out_pure {ok : Nat → Bool} {w : Str} (h : Okt w) : ∀ x ∈ ((signs w).filter (outD ok)).map id, pureN 58 x = true := by
  intro x hx
  rw [List.map_id] at hx
  obtain ⟨c, hc, rfl⟩ := sign_mem (List.mem_filter.mp hx).1
  exact strOk0_of fun d hd => by
    have : d ∈ [c] := hd
    rw [List.mem_singleton.mp this]
    exact h c hc
def sp__law_number (A : Ad) : SpD := fun zs G Q _ => match zs with
  | [.str w] => Okt w ∧ w.length ≤ 100000 ∧ Q (.int (numOf w)) G
  | _ => False
theorem len__law_number {A : Ad} {zs : List D} {G : GH} {Q : DK} {x : XD} (h : sp__law_number A zs G Q x) : zs.length = 1 := by
  unfold sp__law_number at h
  split at h <;> first | rfl | exact h.elim
def ds__law_number (A : Ad) : DS := dSeq (dIfS (dOr (dTest (dOp rdEqS (dVar 0) (dC (.str "")))) (dOr (dTest (dOp rdGt (dCB rdLen (dCons (dVar 0) dNil)) (dC (.int 4)))) (dOr (dTest (dOp rdNe (dLc (dIStr (dVar 0)) (gdName 1) (dTest (dOp rdNinS (dVar 1) (dC (.str "0123456789")))) (dVar 1) [1]) (dLst dNil))) (dAnd (dTest (dOp rdGt (dCB rdLen (dCons (dVar 0) dNil)) (dC (.int 1)))) (dTest (dOp rdEqS (dOp rdIx (dVar 0) (dC (.int 0))) (dC (.str "0")))))))) (dRet (dNeg (dC (.int 1)))) dNext) (dRet (dCB rdIntS (dCons (dVar 0) dNil)))
def N__law_number : List PySem.Str := ["word", "sign"]
abbrev dig (c : Nat) : Bool := decide (c ∈ ("0123456789" : Str).cps.toList)
theorem dig_all (w : Str) : (TL.tl w).all dig = decide (AD (TL.tl w)) := by
  refine Bool.eq_iff_iff.mpr ?_
  rw [List.all_eq_true, decide_eq_true_eq]
  constructor
  · intro h c hc
    exact mem_fig.mp (of_decide_eq_true (h c hc))
  · intro h c hc
    exact decide_eq_true (mem_fig.mpr (h c hc))
theorem one_zero (c : Nat) : decide ((⟨#[c]⟩ : Str) = ("0" : Str)) = decide (c = 48) := by
  refine decide_eq_decide.mpr ⟨fun e => ?_, fun e => by subst e; decide +kernel⟩
  have := congrArg TL.tl e
  have e0 : TL.tl ("0" : Str) = [48] := by decide +kernel
  rw [e0] at this
  injection this
theorem read__law_number {A : Ad} {zs : List D} {G : GH} {Q : DK} {x : XD} (h : sp__law_number A zs G Q x) : ds__law_number A { nx := fun _ G' => Q .non G', rt := Q, xx := fun _ => x } (dstart N__law_number zs) G := by
  unfold sp__law_number at h
  split at h
  · rename_i w
    obtain ⟨ho, hl, q⟩ := h
    unfold N__law_number ds__law_number
    simp only [dRet, dRetN, dSeq, dAsg, dDrop, dIfS, dNext, dBreak, dCont, dPar, dSetL, dSetD, dFor, dVar, dC, dOp, dAndV, dOrV, dNotV, dAnd, dOr, dNot, dIf, dTest, dChain, dNil, dCons, dTup, dLst, dLstM, dStar, dNeg, dCB, dCall, dCallK, dMthT, dMth0, dLc, dYes, dISeq, dIStr, dIEnum, dIZip, dIRng1, dIRng2, dSl, dPart, dNoPart, dRaise, dDisp1, dNewD, dRevL, dRevT, dSortSet, dSortSetL, dIRng3, dGet2, dIKeys, dNewT, dSetT, dLstRg, dPar3, dLcM, dAugL, dSetdT, dDispT, dIItemsT, dIValsT, rdDInP, dFld, dSetF, dMake, dIKeysT, rdIsC, dCntC, dTupC, dSlC, dRevC, dISeqX, dMeth, dMeth0, dSetM, dNewM, lnX_t, lnX_l, srX_t, dLamA, dLamB, gdName, gdTup, gdCons, gdNil, dstart, dwipe, dAug, rdInt, rdSub, rdLt, rdLe, rdGt, rdGe, rdFdiv, rdMod, rdPow, at0, at1, at2, i30, i31, i32, set0, set1, set2, MO.lst.injEq, gup_same, gup_gup, ad_ii, ad_ss, ad_tt, ad_ll, mu_ii, mu_li, mu_ti, ix_t, ix_l, ix_s, ix_r, ix_w, ln_t, ln_l, ln_s, ln_w, ln_r, sr_t, sr_l, sr_s, sr_r, sl_t, sl_l, sl_s, sl_r, sl_w, tu_t, tu_l, tu_r, li_t, li_l, li_r, lm_t, lm_l, mx2, mn2, ab1, in1, is2, rdIsB, rdNotB, rdIsN, rdNotN, TD.isNon, List.map_cons, List.map_nil, List.length_cons, List.length_nil, List.replicate_succ, List.replicate_zero, List.cons_append, List.nil_append, List.append_nil, Nat.zero_add, Nat.reduceAdd, Nat.reduceSub, Nat.sub_self, Nat.add_sub_cancel, List.getElem?_cons_zero, List.getElem?_cons_succ, List.getElem?_nil, List.set_cons_zero, List.set_cons_succ, List.set_nil, Option.some.injEq, D.int.injEq, D.bl.injEq, D.str.injEq, D.ref.injEq, D.ty.injEq, D.tup.injEq, D.lst.injEq, List.cons.injEq, and_true, true_and, ex_two, ex_two', exists_eq_left', exists_eq_left, exists_and_left, exists_and_right, exists_const, exists_eq_right, exists_eq_right', Bool.not_true, Bool.not_false, if_true, if_false, Bool.false_eq_true, reduceCtorEq, false_and, and_false, decide_true, decide_false, rdEqS]
    rw [nil_dec]
    have no : badWord w ∨ zeroHead w → Q (.int (-1)) G := fun z => by
      have e : numOf w = -1 := if_pos z
      rw [← e]
      exact q
    by_cases c1 : w.length = 0
    · rw [decide_eq_true c1]
      simp only [if_true]
      exact no (.inl (.inl c1))
    · rw [decide_eq_false c1]
      simp only [Bool.false_eq_true, if_false]
      refine ⟨sz5 (by omega), ?_⟩
      by_cases c2 : 4 < w.length
      · have e2 : (4 : Int) < (w.length : Int) := by omega
        simp only [e2, decide_true, if_true]
        exact no (.inl (.inr (.inl c2)))
      · have e2 : ¬ (4 : Int) < (w.length : Int) := by omega
        simp only [e2, decide_false, Bool.false_eq_true, if_false]
        refine ⟨sz5 (by omega), ?_⟩
        refine dComp_filter (outD dig) id trivial (fun d hd K1 k => ?_) ?_
        · obtain ⟨c, hc, rfl⟩ := sign_mem hd
          simp only [dRet, dRetN, dSeq, dAsg, dDrop, dIfS, dNext, dBreak, dCont, dPar, dSetL, dSetD, dFor, dVar, dC, dOp, dAndV, dOrV, dNotV, dAnd, dOr, dNot, dIf, dTest, dChain, dNil, dCons, dTup, dLst, dLstM, dStar, dNeg, dCB, dCall, dCallK, dMthT, dMth0, dLc, dYes, dISeq, dIStr, dIEnum, dIZip, dIRng1, dIRng2, dSl, dPart, dNoPart, dRaise, dDisp1, dNewD, dRevL, dRevT, dSortSet, dSortSetL, dIRng3, dGet2, dIKeys, dNewT, dSetT, dLstRg, dPar3, dLcM, dAugL, dSetdT, dDispT, dIItemsT, dIValsT, rdDInP, dFld, dSetF, dMake, dIKeysT, rdIsC, dCntC, dTupC, dSlC, dRevC, dISeqX, dMeth, dMeth0, dSetM, dNewM, lnX_t, lnX_l, srX_t, dLamA, dLamB, gdName, gdTup, gdCons, gdNil, dstart, dwipe, dAug, rdInt, rdSub, rdLt, rdLe, rdGt, rdGe, rdFdiv, rdMod, rdPow, at0, at1, at2, i30, i31, i32, set0, set1, set2, MO.lst.injEq, gup_same, gup_gup, ad_ii, ad_ss, ad_tt, ad_ll, mu_ii, mu_li, mu_ti, ix_t, ix_l, ix_s, ix_r, ix_w, ln_t, ln_l, ln_s, ln_w, ln_r, sr_t, sr_l, sr_s, sr_r, sl_t, sl_l, sl_s, sl_r, sl_w, tu_t, tu_l, tu_r, li_t, li_l, li_r, lm_t, lm_l, mx2, mn2, ab1, in1, is2, rdIsB, rdNotB, rdIsN, rdNotN, TD.isNon, List.map_cons, List.map_nil, List.length_cons, List.length_nil, List.replicate_succ, List.replicate_zero, List.cons_append, List.nil_append, List.append_nil, Nat.zero_add, Nat.reduceAdd, Nat.reduceSub, Nat.sub_self, Nat.add_sub_cancel, List.getElem?_cons_zero, List.getElem?_cons_succ, List.getElem?_nil, List.set_cons_zero, List.set_cons_succ, List.set_nil, Option.some.injEq, D.int.injEq, D.bl.injEq, D.str.injEq, D.ref.injEq, D.ty.injEq, D.tup.injEq, D.lst.injEq, List.cons.injEq, and_true, true_and, ex_two, ex_two', exists_eq_left', exists_eq_left, exists_and_left, exists_and_right, exists_const, exists_eq_right, exists_eq_right', Bool.not_true, Bool.not_false, if_true, if_false, Bool.false_eq_true, reduceCtorEq, false_and, and_false, decide_true, decide_false, rdNinS]
          refine ⟨c, rfl, ?_⟩
          rw [out_one] at k
          cases hb : decide (c ∈ ("0123456789" : Str).cps.toList) with
          | true => rw [show dig c = true from hb] at k; simpa using k
          | false => rw [show dig c = false from hb] at k; simpa using k
        · rw [List.nil_append]
          refine ⟨sz5 (by omega), ne_nil (out_pure ho) ?_⟩
          rw [out_nil, dig_all]
          refine ⟨_, rfl, ?_⟩
          by_cases c3 : AD (TL.tl w)
          · rw [decide_eq_true c3]
            simp only [Bool.not_true, Bool.false_eq_true, if_false]
            have nb : ¬ badWord w := by rintro (z | z | z); exact c1 z; exact c2 z; exact z c3
            have yes : ¬ zeroHead w → rdIntS [.str w] G Q := fun z => by
              refine ⟨w, _, rfl, word_int nb, by omega, ?_⟩
              have e : numOf w = (val (TL.tl w) : Nat) := if_neg (by rintro (y | y); exact nb y; exact z y)
              rw [← e]
              exact q
            refine ⟨sz5 (by omega), ?_⟩
            by_cases c4 : 1 < w.length
            · have e4 : (1 : Int) < (w.length : Int) := by omega
              simp only [e4, decide_true, if_true]
              have hne : 0 < (TL.tl w).length := by rw [← TL.len_tl]; omega
              refine ⟨sz5 (by omega), _, atI_nat (j := 0) (List.getElem?_eq_getElem hne), ?_⟩
              rw [one_zero]
              by_cases c5 : (TL.tl w)[0] = 48
              · rw [decide_eq_true c5]
                simp only [if_true]
                exact no (.inr ⟨c4, by rw [List.getElem?_eq_getElem hne, c5]⟩)
              · rw [decide_eq_false c5]
                simp only [Bool.false_eq_true, if_false]
                exact yes fun z => c5 (by have := z.2; rw [List.getElem?_eq_getElem hne] at this; exact Option.some.inj this)
            · have e4 : ¬ (1 : Int) < (w.length : Int) := by omega
              simp only [e4, decide_false, Bool.false_eq_true, if_false]
              exact yes fun z => c4 z.1
          · rw [decide_eq_false c3]
            simp only [Bool.not_false, if_true]
            exact no (.inl (.inr (.inr c3)))
  · exact h.elim
def sp__law_order_due (A : Ad) : SpD := fun zs G Q _ => match zs with
  | [.str w] => Okt w ∧ w.length ≤ 100000 ∧ Q (if OrdOK w then .tup [.str "read", intsD (ordV w)] else .tup [.str "bad", .int 1]) G
  | _ => False
theorem len__law_order_due {A : Ad} {zs : List D} {G : GH} {Q : DK} {x : XD} (h : sp__law_order_due A zs G Q x) : zs.length = 1 := by
  unfold sp__law_order_due at h
  split at h <;> first | rfl | exact h.elim
def ds__law_order_due (A : Ad) : DS := dSeq (dIfS (dOr (dTest (dOp rdGt (dCB rdLen (dCons (dVar 0) dNil)) (dC (.int 6)))) (dTest (dOp rdNe (dLc (dIStr (dVar 0)) (gdName 1) (dTest (dOp rdNinS (dVar 1) (dC (.str "01234")))) (dVar 1) [1]) (dLst dNil)))) (dRet (dTup (dCons (dC (.str "bad")) (dCons (dC (.int 1)) dNil)))) dNext) (dRet (dTup (dCons (dC (.str "read")) (dCons (dCB rdTuple (dCons (dLc (dIStr (dVar 0)) (gdName 1) dYes (dCB rdIntS (dCons (dVar 1) dNil)) [1]) dNil)) dNil))))
def N__law_order_due : List PySem.Str := ["text", "sign"]
abbrev five (c : Nat) : Bool := decide (c ∈ ("01234" : Str).cps.toList)
theorem five_all (w : Str) : (TL.tl w).all five = decide (∀ c ∈ TL.tl w, 48 ≤ c ∧ c ≤ 52) := by
  refine Bool.eq_iff_iff.mpr ?_
  rw [List.all_eq_true, decide_eq_true_eq]
  constructor
  · intro h c hc
    exact mem_five.mp (of_decide_eq_true (h c hc))
  · intro h c hc
    exact decide_eq_true (mem_five.mpr (h c hc))
theorem read__law_order_due {A : Ad} {zs : List D} {G : GH} {Q : DK} {x : XD} (h : sp__law_order_due A zs G Q x) : ds__law_order_due A { nx := fun _ G' => Q .non G', rt := Q, xx := fun _ => x } (dstart N__law_order_due zs) G := by
  unfold sp__law_order_due at h
  split at h
  · rename_i w
    obtain ⟨ho, hl, q⟩ := h
    unfold N__law_order_due ds__law_order_due
    simp only [dRet, dRetN, dSeq, dAsg, dDrop, dIfS, dNext, dBreak, dCont, dPar, dSetL, dSetD, dFor, dVar, dC, dOp, dAndV, dOrV, dNotV, dAnd, dOr, dNot, dIf, dTest, dChain, dNil, dCons, dTup, dLst, dLstM, dStar, dNeg, dCB, dCall, dCallK, dMthT, dMth0, dLc, dYes, dISeq, dIStr, dIEnum, dIZip, dIRng1, dIRng2, dSl, dPart, dNoPart, dRaise, dDisp1, dNewD, dRevL, dRevT, dSortSet, dSortSetL, dIRng3, dGet2, dIKeys, dNewT, dSetT, dLstRg, dPar3, dLcM, dAugL, dSetdT, dDispT, dIItemsT, dIValsT, rdDInP, dFld, dSetF, dMake, dIKeysT, rdIsC, dCntC, dTupC, dSlC, dRevC, dISeqX, dMeth, dMeth0, dSetM, dNewM, lnX_t, lnX_l, srX_t, dLamA, dLamB, gdName, gdTup, gdCons, gdNil, dstart, dwipe, dAug, rdInt, rdSub, rdLt, rdLe, rdGt, rdGe, rdFdiv, rdMod, rdPow, at0, at1, at2, i30, i31, i32, set0, set1, set2, MO.lst.injEq, gup_same, gup_gup, ad_ii, ad_ss, ad_tt, ad_ll, mu_ii, mu_li, mu_ti, ix_t, ix_l, ix_s, ix_r, ix_w, ln_t, ln_l, ln_s, ln_w, ln_r, sr_t, sr_l, sr_s, sr_r, sl_t, sl_l, sl_s, sl_r, sl_w, tu_t, tu_l, tu_r, li_t, li_l, li_r, lm_t, lm_l, mx2, mn2, ab1, in1, is2, rdIsB, rdNotB, rdIsN, rdNotN, TD.isNon, List.map_cons, List.map_nil, List.length_cons, List.length_nil, List.replicate_succ, List.replicate_zero, List.cons_append, List.nil_append, List.append_nil, Nat.zero_add, Nat.reduceAdd, Nat.reduceSub, Nat.sub_self, Nat.add_sub_cancel, List.getElem?_cons_zero, List.getElem?_cons_succ, List.getElem?_nil, List.set_cons_zero, List.set_cons_succ, List.set_nil, Option.some.injEq, D.int.injEq, D.bl.injEq, D.str.injEq, D.ref.injEq, D.ty.injEq, D.tup.injEq, D.lst.injEq, List.cons.injEq, and_true, true_and, ex_two, ex_two', exists_eq_left', exists_eq_left, exists_and_left, exists_and_right, exists_const, exists_eq_right, exists_eq_right', Bool.not_true, Bool.not_false, if_true, if_false, Bool.false_eq_true, reduceCtorEq, false_and, and_false, decide_true, decide_false]
    refine ⟨sz5 (by omega), ?_⟩
    have no : ¬ OrdOK w → Q (.tup [.str "bad", .int 1]) G := fun z => by
      rw [if_neg z] at q
      exact q
    by_cases c2 : 6 < w.length
    · have e2 : (6 : Int) < (w.length : Int) := by omega
      simp only [e2, decide_true, if_true]
      exact ⟨sz _ (by omega), no fun z => by have := z.1; omega⟩
    · have e2 : ¬ (6 : Int) < (w.length : Int) := by omega
      simp only [e2, decide_false, Bool.false_eq_true, if_false]
      refine ⟨sz5 (by omega), ?_⟩
      refine dComp_filter (outD five) id trivial (fun d hd K1 k => ?_) ?_
      · obtain ⟨c, hc, rfl⟩ := sign_mem hd
        simp only [dRet, dRetN, dSeq, dAsg, dDrop, dIfS, dNext, dBreak, dCont, dPar, dSetL, dSetD, dFor, dVar, dC, dOp, dAndV, dOrV, dNotV, dAnd, dOr, dNot, dIf, dTest, dChain, dNil, dCons, dTup, dLst, dLstM, dStar, dNeg, dCB, dCall, dCallK, dMthT, dMth0, dLc, dYes, dISeq, dIStr, dIEnum, dIZip, dIRng1, dIRng2, dSl, dPart, dNoPart, dRaise, dDisp1, dNewD, dRevL, dRevT, dSortSet, dSortSetL, dIRng3, dGet2, dIKeys, dNewT, dSetT, dLstRg, dPar3, dLcM, dAugL, dSetdT, dDispT, dIItemsT, dIValsT, rdDInP, dFld, dSetF, dMake, dIKeysT, rdIsC, dCntC, dTupC, dSlC, dRevC, dISeqX, dMeth, dMeth0, dSetM, dNewM, lnX_t, lnX_l, srX_t, dLamA, dLamB, gdName, gdTup, gdCons, gdNil, dstart, dwipe, dAug, rdInt, rdSub, rdLt, rdLe, rdGt, rdGe, rdFdiv, rdMod, rdPow, at0, at1, at2, i30, i31, i32, set0, set1, set2, MO.lst.injEq, gup_same, gup_gup, ad_ii, ad_ss, ad_tt, ad_ll, mu_ii, mu_li, mu_ti, ix_t, ix_l, ix_s, ix_r, ix_w, ln_t, ln_l, ln_s, ln_w, ln_r, sr_t, sr_l, sr_s, sr_r, sl_t, sl_l, sl_s, sl_r, sl_w, tu_t, tu_l, tu_r, li_t, li_l, li_r, lm_t, lm_l, mx2, mn2, ab1, in1, is2, rdIsB, rdNotB, rdIsN, rdNotN, TD.isNon, List.map_cons, List.map_nil, List.length_cons, List.length_nil, List.replicate_succ, List.replicate_zero, List.cons_append, List.nil_append, List.append_nil, Nat.zero_add, Nat.reduceAdd, Nat.reduceSub, Nat.sub_self, Nat.add_sub_cancel, List.getElem?_cons_zero, List.getElem?_cons_succ, List.getElem?_nil, List.set_cons_zero, List.set_cons_succ, List.set_nil, Option.some.injEq, D.int.injEq, D.bl.injEq, D.str.injEq, D.ref.injEq, D.ty.injEq, D.tup.injEq, D.lst.injEq, List.cons.injEq, and_true, true_and, ex_two, ex_two', exists_eq_left', exists_eq_left, exists_and_left, exists_and_right, exists_const, exists_eq_right, exists_eq_right', Bool.not_true, Bool.not_false, if_true, if_false, Bool.false_eq_true, reduceCtorEq, false_and, and_false, decide_true, decide_false, rdNinS]
        refine ⟨c, rfl, ?_⟩
        rw [out_one] at k
        cases hb : decide (c ∈ ("01234" : Str).cps.toList) with
        | true => rw [show five c = true from hb] at k; simpa using k
        | false => rw [show five c = false from hb] at k; simpa using k
      · rw [List.nil_append]
        refine ⟨sz5 (by omega), ne_nil (out_pure ho) ?_⟩
        rw [out_nil, five_all]
        refine ⟨_, rfl, ?_⟩
        by_cases c3 : ∀ c ∈ TL.tl w, 48 ≤ c ∧ c ≤ 52
        · rw [decide_eq_true c3]
          simp only [Bool.not_true, Bool.false_eq_true, if_false]
          rw [if_pos (show OrdOK w from ⟨by omega, c3⟩)] at q
          refine ⟨sz5 (by omega), ?_⟩
          refine dComp_map (fun d => match d with | .str x => .int (val (TL.tl x) : Nat) | _ => .non) trivial (fun d hd K1 k => ?_) ?_
          · obtain ⟨c, hc, rfl⟩ := sign_mem hd
            have hb := c3 c hc
            simp only [dRet, dRetN, dSeq, dAsg, dDrop, dIfS, dNext, dBreak, dCont, dPar, dSetL, dSetD, dFor, dVar, dC, dOp, dAndV, dOrV, dNotV, dAnd, dOr, dNot, dIf, dTest, dChain, dNil, dCons, dTup, dLst, dLstM, dStar, dNeg, dCB, dCall, dCallK, dMthT, dMth0, dLc, dYes, dISeq, dIStr, dIEnum, dIZip, dIRng1, dIRng2, dSl, dPart, dNoPart, dRaise, dDisp1, dNewD, dRevL, dRevT, dSortSet, dSortSetL, dIRng3, dGet2, dIKeys, dNewT, dSetT, dLstRg, dPar3, dLcM, dAugL, dSetdT, dDispT, dIItemsT, dIValsT, rdDInP, dFld, dSetF, dMake, dIKeysT, rdIsC, dCntC, dTupC, dSlC, dRevC, dISeqX, dMeth, dMeth0, dSetM, dNewM, lnX_t, lnX_l, srX_t, dLamA, dLamB, gdName, gdTup, gdCons, gdNil, dstart, dwipe, dAug, rdInt, rdSub, rdLt, rdLe, rdGt, rdGe, rdFdiv, rdMod, rdPow, at0, at1, at2, i30, i31, i32, set0, set1, set2, MO.lst.injEq, gup_same, gup_gup, ad_ii, ad_ss, ad_tt, ad_ll, mu_ii, mu_li, mu_ti, ix_t, ix_l, ix_s, ix_r, ix_w, ln_t, ln_l, ln_s, ln_w, ln_r, sr_t, sr_l, sr_s, sr_r, sl_t, sl_l, sl_s, sl_r, sl_w, tu_t, tu_l, tu_r, li_t, li_l, li_r, lm_t, lm_l, mx2, mn2, ab1, in1, is2, rdIsB, rdNotB, rdIsN, rdNotN, TD.isNon, List.map_cons, List.map_nil, List.length_cons, List.length_nil, List.replicate_succ, List.replicate_zero, List.cons_append, List.nil_append, List.append_nil, Nat.zero_add, Nat.reduceAdd, Nat.reduceSub, Nat.sub_self, Nat.add_sub_cancel, List.getElem?_cons_zero, List.getElem?_cons_succ, List.getElem?_nil, List.set_cons_zero, List.set_cons_succ, List.set_nil, Option.some.injEq, D.int.injEq, D.bl.injEq, D.str.injEq, D.ref.injEq, D.ty.injEq, D.tup.injEq, D.lst.injEq, List.cons.injEq, and_true, true_and, ex_two, ex_two', exists_eq_left', exists_eq_left, exists_and_left, exists_and_right, exists_const, exists_eq_right, exists_eq_right', Bool.not_true, Bool.not_false, if_true, if_false, Bool.false_eq_true, reduceCtorEq, false_and, and_false, decide_true, decide_false, rdIntS]
            have nb : ¬ badWord (⟨#[c]⟩ : Str) := by
              have el : (⟨#[c]⟩ : Str).length = 1 := rfl
              unfold badWord
              rw [el]
              rintro (z | z | z)
              · omega
              · omega
              · exact z fun d hd => by
                  have : d ∈ [c] := hd
                  rw [List.mem_singleton.mp this]
                  omega
            exact ⟨_, word_int nb, by show 1 ≤ 640; omega, k⟩
          · have er : ([] ++ (signs w).map fun d => match d with | .str x => D.int (val (TL.tl x) : Nat) | _ => .non) = (ordV w).map D.int := by
              rw [List.nil_append]
              unfold signs ordV
              rw [List.map_map, List.map_map]
              refine List.map_congr_left fun c hc => ?_
              have hb := c3 c hc
              show D.int ((0 * 10 + (c - 48) : Nat) : Int) = D.int ((c : Int) - 48)
              congr 1
              omega
            rw [er]
            exact ⟨sz _ (by omega), q⟩
        · rw [decide_eq_false c3]
          simp only [Bool.not_false, if_true]
          exact ⟨sz _ (by omega), no fun z => c3 z.2⟩
  · exact h.elim
end K00
namespace K00
open PySem L2 TD
def dueD : TR → D
  | .bad k => .tup [.str "bad", .int (k : Nat)]
  | .ok t => .tup [.str "read", tabD t]
def sp__law_table_due (A : Ad) : SpD := fun zs G Q _ => match zs with
  | [.str w] => Okt w ∧ w.length ≤ 100000 ∧ ∀ G', Ext G G' → Q (dueD (tblR w)) G'
  | _ => False
theorem len__law_table_due {A : Ad} {zs : List D} {G : GH} {Q : DK} {x : XD} (h : sp__law_table_due A zs G Q x) : zs.length = 1 := by
  unfold sp__law_table_due at h
  split at h <;> first | rfl | exact h.elim
def ds__law_table_due (A : Ad) : DS := dSeq (dPar 1 2 (dMthT "str" rdSplit (dVar 0) (dCons (dC (.str "\n")) dNil)) (dLstM dNil)) (dSeq (dAsg (dCB rdLen (dCons (dMthT "str" rdSplit (dOp rdIx (dVar 1) (dC (.int 0))) (dCons (dC (.str " ")) dNil)) dNil)) (gdName 3)) (dSeq (dFor (dIRng1 (dCons (dCB rdLen (dCons (dVar 1) dNil)) dNil)) (gdName 4) (dSeq (dAsg (dLc (dISeq (dMthT "str" rdSplit (dOp rdIx (dVar 1) (dVar 4)) (dCons (dC (.str " ")) dNil))) (gdName 5) dYes (dCall (sp__law_number A) (dCons (dVar 5) dNil)) [5]) (gdName 6)) (dSeq (dIfS (dOr (dTest (dOp rdGe (dVar 4) (dVar 3))) (dOr (dTest (dOp rdGt (dVar 3) (dC (.int 7)))) (dOr (dTest (dOp rdNe (dCB rdLen (dCons (dVar 6) dNil)) (dOp rdSub (dVar 3) (dVar 4)))) (dTest (dOp rdNe (dLc (dISeq (dVar 6)) (gdName 7) (dNot (dTest (dChain rdLe rdLe (dC (.int 0)) (dVar 7) (dC (.int 1000))))) (dVar 7) [7]) (dLst dNil)))))) (dRet (dTup (dCons (dC (.str "bad")) (dCons (dOp rdAdd (dVar 4) (dC (.int 1))) dNil)))) dNext) (dDrop (dMthT "list" rdAppend (dVar 2) (dCons (dCB rdTuple (dCons (dVar 6) dNil)) dNil)))))) (dRet (dIf (dTest (dOp rdEq (dCB rdLen (dCons (dVar 2) dNil)) (dVar 3))) (dTup (dCons (dC (.str "read")) (dCons (dCB rdTuple (dCons (dVar 2) dNil)) dNil))) (dTup (dCons (dC (.str "bad")) (dCons (dOp rdAdd (dCB rdLen (dCons (dVar 2) dNil)) (dC (.int 1))) dNil)))))))
def N__law_table_due : List PySem.Str := ["text", "lines", "found", "many", "at", "word", "row", "one"]
def outI (d : D) : Bool := match d with
  | .int i => !(decide (0 ≤ i) && decide (i ≤ 1000))
  | _ => false
theorem outI_nil (ns : List Int) : (!(((ns.map D.int).filter outI).map id).isEmpty) = !decide (∀ y ∈ ns, 0 ≤ y ∧ y ≤ 1000) := by
  rw [List.map_id]
  congr 1
  induction ns with
  | nil => rfl
  | cons a r ih =>
    rw [List.map_cons, List.filter_cons]
    by_cases c : 0 ≤ a ∧ a ≤ 1000
    · have e : outI (.int a) = false := by simp [outI, c]
      rw [e, if_neg Bool.false_ne_true, ih]
      refine decide_eq_decide.mpr ⟨fun h y hy => ?_, fun h y hy => h y (List.mem_cons_of_mem _ hy)⟩
      rcases List.mem_cons.mp hy with rfl | hy
      · exact c
      · exact h y hy
    · have e : outI (.int a) = true := by
        simp only [outI, Bool.not_eq_true', Bool.and_eq_false_iff, decide_eq_false_iff_not]
        omega
      rw [e, if_pos rfl]
      symm
      exact decide_eq_false fun h => c (h a List.mem_cons_self)
theorem outI_pure (ns : List Int) : ∀ x ∈ ((ns.map D.int).filter outI).map id, pureN 58 x = true := by
  intro x hx
  rw [List.map_id] at hx
  obtain ⟨i, _, rfl⟩ := List.mem_map.mp (List.mem_filter.mp hx).1
  rfl
theorem read__law_table_due {A : Ad} {zs : List D} {G : GH} {Q : DK} {x : XD} (h : sp__law_table_due A zs G Q x) : ds__law_table_due A { nx := fun _ G' => Q .non G', rt := Q, xx := fun _ => x } (dstart N__law_table_due zs) G := by
  unfold sp__law_table_due at h
  split at h
  · rename_i w
    obtain ⟨ho, hl, h2⟩ := h
    unfold N__law_table_due ds__law_table_due
    have hM := many_le w
    have hL := split_len (x := w) sep_NL
    simp only [dRet, dRetN, dSeq, dAsg, dDrop, dIfS, dNext, dBreak, dCont, dPar, dSetL, dSetD, dFor, dVar, dC, dOp, dAndV, dOrV, dNotV, dAnd, dOr, dNot, dIf, dTest, dChain, dNil, dCons, dTup, dLst, dLstM, dStar, dNeg, dCB, dCall, dCallK, dMthT, dMth0, dLc, dYes, dISeq, dIStr, dIEnum, dIZip, dIRng1, dIRng2, dSl, dPart, dNoPart, dRaise, dDisp1, dNewD, dRevL, dRevT, dSortSet, dSortSetL, dIRng3, dGet2, dIKeys, dNewT, dSetT, dLstRg, dPar3, dLcM, dAugL, dSetdT, dDispT, dIItemsT, dIValsT, rdDInP, dFld, dSetF, dMake, dIKeysT, rdIsC, dCntC, dTupC, dSlC, dRevC, dISeqX, dMeth, dMeth0, dSetM, dNewM, lnX_t, lnX_l, srX_t, dLamA, dLamB, gdName, gdTup, gdCons, gdNil, dstart, dwipe, dAug, rdInt, rdSub, rdLt, rdLe, rdGt, rdGe, rdFdiv, rdMod, rdPow, at0, at1, at2, i30, i31, i32, set0, set1, set2, MO.lst.injEq, gup_same, gup_gup, ad_ii, ad_ss, ad_tt, ad_ll, mu_ii, mu_li, mu_ti, ix_t, ix_l, ix_s, ix_r, ix_w, ln_t, ln_l, ln_s, ln_w, ln_r, sr_t, sr_l, sr_s, sr_r, sl_t, sl_l, sl_s, sl_r, sl_w, tu_t, tu_l, tu_r, li_t, li_l, li_r, lm_t, lm_l, mx2, mn2, ab1, in1, is2, rdIsB, rdNotB, rdIsN, rdNotN, TD.isNon, List.map_cons, List.map_nil, List.length_cons, List.length_nil, List.replicate_succ, List.replicate_zero, List.cons_append, List.nil_append, List.append_nil, Nat.zero_add, Nat.reduceAdd, Nat.reduceSub, Nat.sub_self, Nat.add_sub_cancel, List.getElem?_cons_zero, List.getElem?_cons_succ, List.getElem?_nil, List.set_cons_zero, List.set_cons_succ, List.set_nil, Option.some.injEq, D.int.injEq, D.bl.injEq, D.str.injEq, D.ref.injEq, D.ty.injEq, D.tup.injEq, D.lst.injEq, List.cons.injEq, and_true, true_and, ex_two, ex_two', exists_eq_left', exists_eq_left, exists_and_left, exists_and_right, exists_const, exists_eq_right, exists_eq_right', Bool.not_true, Bool.not_false, if_true, if_false, Bool.false_eq_true, reduceCtorEq, false_and, and_false, decide_true, decide_false, tyM, rdSplit]
    refine ⟨by decide +kernel, sz5 (by omega), sz5 (by omega), fun p hp => ?_⟩
    refine ⟨_, atI_nat (j := 0) (first_line w), ?_⟩
    have hF := split_part_len sep_NL (first_mem w)
    simp only [dRet, dRetN, dSeq, dAsg, dDrop, dIfS, dNext, dBreak, dCont, dPar, dSetL, dSetD, dFor, dVar, dC, dOp, dAndV, dOrV, dNotV, dAnd, dOr, dNot, dIf, dTest, dChain, dNil, dCons, dTup, dLst, dLstM, dStar, dNeg, dCB, dCall, dCallK, dMthT, dMth0, dLc, dYes, dISeq, dIStr, dIEnum, dIZip, dIRng1, dIRng2, dSl, dPart, dNoPart, dRaise, dDisp1, dNewD, dRevL, dRevT, dSortSet, dSortSetL, dIRng3, dGet2, dIKeys, dNewT, dSetT, dLstRg, dPar3, dLcM, dAugL, dSetdT, dDispT, dIItemsT, dIValsT, rdDInP, dFld, dSetF, dMake, dIKeysT, rdIsC, dCntC, dTupC, dSlC, dRevC, dISeqX, dMeth, dMeth0, dSetM, dNewM, lnX_t, lnX_l, srX_t, dLamA, dLamB, gdName, gdTup, gdCons, gdNil, dstart, dwipe, dAug, rdInt, rdSub, rdLt, rdLe, rdGt, rdGe, rdFdiv, rdMod, rdPow, at0, at1, at2, i30, i31, i32, set0, set1, set2, MO.lst.injEq, gup_same, gup_gup, ad_ii, ad_ss, ad_tt, ad_ll, mu_ii, mu_li, mu_ti, ix_t, ix_l, ix_s, ix_r, ix_w, ln_t, ln_l, ln_s, ln_w, ln_r, sr_t, sr_l, sr_s, sr_r, sl_t, sl_l, sl_s, sl_r, sl_w, tu_t, tu_l, tu_r, li_t, li_l, li_r, lm_t, lm_l, mx2, mn2, ab1, in1, is2, rdIsB, rdNotB, rdIsN, rdNotN, TD.isNon, List.map_cons, List.map_nil, List.length_cons, List.length_nil, List.replicate_succ, List.replicate_zero, List.cons_append, List.nil_append, List.append_nil, Nat.zero_add, Nat.reduceAdd, Nat.reduceSub, Nat.sub_self, Nat.add_sub_cancel, List.getElem?_cons_zero, List.getElem?_cons_succ, List.getElem?_nil, List.set_cons_zero, List.set_cons_succ, List.set_nil, Option.some.injEq, D.int.injEq, D.bl.injEq, D.str.injEq, D.ref.injEq, D.ty.injEq, D.tup.injEq, D.lst.injEq, List.cons.injEq, and_true, true_and, ex_two, ex_two', exists_eq_left', exists_eq_left, exists_and_left, exists_and_right, exists_const, exists_eq_right, exists_eq_right', Bool.not_true, Bool.not_false, if_true, if_false, Bool.false_eq_true, reduceCtorEq, false_and, and_false, decide_true, decide_false, List.length_map]
    refine ⟨by decide +kernel, sz5 (by omega), by omega, (by rw [Int.toNat_natCast]; exact sz5 (show (Txt.split w NL).length ≤ 200000 by omega)), ?_⟩
    have eN : ((Txt.split w NL).length : Int).toNat = (Txt.split w NL).length := by omega
    rw [eN]
    refine dLoop_inv (fun i ρ G' => ∃ acc o4 o5 o6 o7, ρ = [some (.str w), some (.lst ((Txt.split w NL).map D.str)), some (.ref p), some (.int (manyOf w : Nat)), o4, o5, o6, o7] ∧ acc.length = i ∧ i ≤ manyOf w ∧ G' = gup G p (.lst (acc.map intsD)) ∧ tblR w = go (manyOf w) i ((Txt.split w NL).drop i) acc) 0
      ⟨[], none, none, none, none, rfl, rfl, Nat.zero_le _, rfl, rfl⟩ (fun _ _ _ _ _ _ => trivial) (fun i dd ρ G' hi hI K1 hK => ?_) (fun ρ G' hI => ?_)
    · obtain ⟨acc, o4, o5, o6, o7, rfl, ha, hs, rfl, hg⟩ := hI
      obtain ⟨hi1, rfl⟩ := rngD_get hi
      rw [Nat.zero_add] at *
      have ee : (0 : Int) + (i : Int) = (i : Int) := by omega
      rw [ee]
      have hd : (Txt.split w NL).drop i = (Txt.split w NL)[i] :: (Txt.split w NL).drop (i + 1) := List.drop_eq_getElem_cons hi1
      have hln : (Txt.split w NL)[i]? = some ((Txt.split w NL)[i]) := List.getElem?_eq_getElem hi1
      rw [hd] at hg
      generalize (Txt.split w NL)[i] = line at hd hln hg
      have hlm := split_part_len sep_NL (List.mem_of_getElem? hln)
      have hok := split_okt sep_NL ho (List.mem_of_getElem? hln)
      simp only [dRet, dRetN, dSeq, dAsg, dDrop, dIfS, dNext, dBreak, dCont, dPar, dSetL, dSetD, dFor, dVar, dC, dOp, dAndV, dOrV, dNotV, dAnd, dOr, dNot, dIf, dTest, dChain, dNil, dCons, dTup, dLst, dLstM, dStar, dNeg, dCB, dCall, dCallK, dMthT, dMth0, dLc, dYes, dISeq, dIStr, dIEnum, dIZip, dIRng1, dIRng2, dSl, dPart, dNoPart, dRaise, dDisp1, dNewD, dRevL, dRevT, dSortSet, dSortSetL, dIRng3, dGet2, dIKeys, dNewT, dSetT, dLstRg, dPar3, dLcM, dAugL, dSetdT, dDispT, dIItemsT, dIValsT, rdDInP, dFld, dSetF, dMake, dIKeysT, rdIsC, dCntC, dTupC, dSlC, dRevC, dISeqX, dMeth, dMeth0, dSetM, dNewM, lnX_t, lnX_l, srX_t, dLamA, dLamB, gdName, gdTup, gdCons, gdNil, dstart, dwipe, dAug, rdInt, rdSub, rdLt, rdLe, rdGt, rdGe, rdFdiv, rdMod, rdPow, at0, at1, at2, i30, i31, i32, set0, set1, set2, MO.lst.injEq, gup_same, gup_gup, ad_ii, ad_ss, ad_tt, ad_ll, mu_ii, mu_li, mu_ti, ix_t, ix_l, ix_s, ix_r, ix_w, ln_t, ln_l, ln_s, ln_w, ln_r, sr_t, sr_l, sr_s, sr_r, sl_t, sl_l, sl_s, sl_r, sl_w, tu_t, tu_l, tu_r, li_t, li_l, li_r, lm_t, lm_l, mx2, mn2, ab1, in1, is2, rdIsB, rdNotB, rdIsN, rdNotN, TD.isNon, List.map_cons, List.map_nil, List.length_cons, List.length_nil, List.replicate_succ, List.replicate_zero, List.cons_append, List.nil_append, List.append_nil, Nat.zero_add, Nat.reduceAdd, Nat.reduceSub, Nat.sub_self, Nat.add_sub_cancel, List.getElem?_cons_zero, List.getElem?_cons_succ, List.getElem?_nil, List.set_cons_zero, List.set_cons_succ, List.set_nil, Option.some.injEq, D.int.injEq, D.bl.injEq, D.str.injEq, D.ref.injEq, D.ty.injEq, D.tup.injEq, D.lst.injEq, List.cons.injEq, and_true, true_and, ex_two, ex_two', exists_eq_left', exists_eq_left, exists_and_left, exists_and_right, exists_const, exists_eq_right, exists_eq_right', Bool.not_true, Bool.not_false, if_true, if_false, Bool.false_eq_true, reduceCtorEq, false_and, and_false, decide_true, decide_false]
      refine ⟨_, atI_nat (j := i) (by rw [List.getElem?_map, hln] <;> rfl), ?_⟩
      simp only [dRet, dRetN, dSeq, dAsg, dDrop, dIfS, dNext, dBreak, dCont, dPar, dSetL, dSetD, dFor, dVar, dC, dOp, dAndV, dOrV, dNotV, dAnd, dOr, dNot, dIf, dTest, dChain, dNil, dCons, dTup, dLst, dLstM, dStar, dNeg, dCB, dCall, dCallK, dMthT, dMth0, dLc, dYes, dISeq, dIStr, dIEnum, dIZip, dIRng1, dIRng2, dSl, dPart, dNoPart, dRaise, dDisp1, dNewD, dRevL, dRevT, dSortSet, dSortSetL, dIRng3, dGet2, dIKeys, dNewT, dSetT, dLstRg, dPar3, dLcM, dAugL, dSetdT, dDispT, dIItemsT, dIValsT, rdDInP, dFld, dSetF, dMake, dIKeysT, rdIsC, dCntC, dTupC, dSlC, dRevC, dISeqX, dMeth, dMeth0, dSetM, dNewM, lnX_t, lnX_l, srX_t, dLamA, dLamB, gdName, gdTup, gdCons, gdNil, dstart, dwipe, dAug, rdInt, rdSub, rdLt, rdLe, rdGt, rdGe, rdFdiv, rdMod, rdPow, at0, at1, at2, i30, i31, i32, set0, set1, set2, MO.lst.injEq, gup_same, gup_gup, ad_ii, ad_ss, ad_tt, ad_ll, mu_ii, mu_li, mu_ti, ix_t, ix_l, ix_s, ix_r, ix_w, ln_t, ln_l, ln_s, ln_w, ln_r, sr_t, sr_l, sr_s, sr_r, sl_t, sl_l, sl_s, sl_r, sl_w, tu_t, tu_l, tu_r, li_t, li_l, li_r, lm_t, lm_l, mx2, mn2, ab1, in1, is2, rdIsB, rdNotB, rdIsN, rdNotN, TD.isNon, List.map_cons, List.map_nil, List.length_cons, List.length_nil, List.replicate_succ, List.replicate_zero, List.cons_append, List.nil_append, List.append_nil, Nat.zero_add, Nat.reduceAdd, Nat.reduceSub, Nat.sub_self, Nat.add_sub_cancel, List.getElem?_cons_zero, List.getElem?_cons_succ, List.getElem?_nil, List.set_cons_zero, List.set_cons_succ, List.set_nil, Option.some.injEq, D.int.injEq, D.bl.injEq, D.str.injEq, D.ref.injEq, D.ty.injEq, D.tup.injEq, D.lst.injEq, List.cons.injEq, and_true, true_and, ex_two, ex_two', exists_eq_left', exists_eq_left, exists_and_left, exists_and_right, exists_const, exists_eq_right, exists_eq_right', Bool.not_true, Bool.not_false, if_true, if_false, Bool.false_eq_true, reduceCtorEq, false_and, and_false, decide_true, decide_false, tyM, rdSplit]
      refine ⟨by decide +kernel, sz5 (by omega), ?_⟩
      refine dComp_map (fun d => match d with | .str x => .int (numOf x) | _ => .non) trivial (fun d hd K2 k2 => ?_) ?_
      · obtain ⟨x, hx, rfl⟩ := List.mem_map.mp hd
        have := split_part_len sep_SP hx
        simp only [dRet, dRetN, dSeq, dAsg, dDrop, dIfS, dNext, dBreak, dCont, dPar, dSetL, dSetD, dFor, dVar, dC, dOp, dAndV, dOrV, dNotV, dAnd, dOr, dNot, dIf, dTest, dChain, dNil, dCons, dTup, dLst, dLstM, dStar, dNeg, dCB, dCall, dCallK, dMthT, dMth0, dLc, dYes, dISeq, dIStr, dIEnum, dIZip, dIRng1, dIRng2, dSl, dPart, dNoPart, dRaise, dDisp1, dNewD, dRevL, dRevT, dSortSet, dSortSetL, dIRng3, dGet2, dIKeys, dNewT, dSetT, dLstRg, dPar3, dLcM, dAugL, dSetdT, dDispT, dIItemsT, dIValsT, rdDInP, dFld, dSetF, dMake, dIKeysT, rdIsC, dCntC, dTupC, dSlC, dRevC, dISeqX, dMeth, dMeth0, dSetM, dNewM, lnX_t, lnX_l, srX_t, dLamA, dLamB, gdName, gdTup, gdCons, gdNil, dstart, dwipe, dAug, rdInt, rdSub, rdLt, rdLe, rdGt, rdGe, rdFdiv, rdMod, rdPow, at0, at1, at2, i30, i31, i32, set0, set1, set2, MO.lst.injEq, gup_same, gup_gup, ad_ii, ad_ss, ad_tt, ad_ll, mu_ii, mu_li, mu_ti, ix_t, ix_l, ix_s, ix_r, ix_w, ln_t, ln_l, ln_s, ln_w, ln_r, sr_t, sr_l, sr_s, sr_r, sl_t, sl_l, sl_s, sl_r, sl_w, tu_t, tu_l, tu_r, li_t, li_l, li_r, lm_t, lm_l, mx2, mn2, ab1, in1, is2, rdIsB, rdNotB, rdIsN, rdNotN, TD.isNon, List.map_cons, List.map_nil, List.length_cons, List.length_nil, List.replicate_succ, List.replicate_zero, List.cons_append, List.nil_append, List.append_nil, Nat.zero_add, Nat.reduceAdd, Nat.reduceSub, Nat.sub_self, Nat.add_sub_cancel, List.getElem?_cons_zero, List.getElem?_cons_succ, List.getElem?_nil, List.set_cons_zero, List.set_cons_succ, List.set_nil, Option.some.injEq, D.int.injEq, D.bl.injEq, D.str.injEq, D.ref.injEq, D.ty.injEq, D.tup.injEq, D.lst.injEq, List.cons.injEq, and_true, true_and, ex_two, ex_two', exists_eq_left', exists_eq_left, exists_and_left, exists_and_right, exists_const, exists_eq_right, exists_eq_right', Bool.not_true, Bool.not_false, if_true, if_false, Bool.false_eq_true, reduceCtorEq, false_and, and_false, decide_true, decide_false, sp__law_number]
        exact ⟨split_okt sep_SP hok hx, by omega, k2⟩
      · have er : ([] ++ ((Txt.split line SP).map D.str).map fun d => match d with | .str x => D.int (numOf x) | _ => .non) = (nums line).map D.int := by
          unfold nums
          rw [List.nil_append, List.map_map, List.map_map] <;> rfl
        rw [er]
        have fin : LineBad (manyOf w) i line → Q (.tup [.str "bad", .int ((i : Int) + 1)]) (gup G p (.lst (acc.map intsD))) := fun hb => by
          unfold go at hg
          rw [if_pos hb] at hg
          have q := h2 (gup G p (.lst (acc.map intsD))) (ext_new hp)
          rw [hg] at q
          exact q
        simp only [dRet, dRetN, dSeq, dAsg, dDrop, dIfS, dNext, dBreak, dCont, dPar, dSetL, dSetD, dFor, dVar, dC, dOp, dAndV, dOrV, dNotV, dAnd, dOr, dNot, dIf, dTest, dChain, dNil, dCons, dTup, dLst, dLstM, dStar, dNeg, dCB, dCall, dCallK, dMthT, dMth0, dLc, dYes, dISeq, dIStr, dIEnum, dIZip, dIRng1, dIRng2, dSl, dPart, dNoPart, dRaise, dDisp1, dNewD, dRevL, dRevT, dSortSet, dSortSetL, dIRng3, dGet2, dIKeys, dNewT, dSetT, dLstRg, dPar3, dLcM, dAugL, dSetdT, dDispT, dIItemsT, dIValsT, rdDInP, dFld, dSetF, dMake, dIKeysT, rdIsC, dCntC, dTupC, dSlC, dRevC, dISeqX, dMeth, dMeth0, dSetM, dNewM, lnX_t, lnX_l, srX_t, dLamA, dLamB, gdName, gdTup, gdCons, gdNil, dstart, dwipe, dAug, rdInt, rdSub, rdLt, rdLe, rdGt, rdGe, rdFdiv, rdMod, rdPow, at0, at1, at2, i30, i31, i32, set0, set1, set2, MO.lst.injEq, gup_same, gup_gup, ad_ii, ad_ss, ad_tt, ad_ll, mu_ii, mu_li, mu_ti, ix_t, ix_l, ix_s, ix_r, ix_w, ln_t, ln_l, ln_s, ln_w, ln_r, sr_t, sr_l, sr_s, sr_r, sl_t, sl_l, sl_s, sl_r, sl_w, tu_t, tu_l, tu_r, li_t, li_l, li_r, lm_t, lm_l, mx2, mn2, ab1, in1, is2, rdIsB, rdNotB, rdIsN, rdNotN, TD.isNon, List.map_cons, List.map_nil, List.length_cons, List.length_nil, List.replicate_succ, List.replicate_zero, List.cons_append, List.nil_append, List.append_nil, Nat.zero_add, Nat.reduceAdd, Nat.reduceSub, Nat.sub_self, Nat.add_sub_cancel, List.getElem?_cons_zero, List.getElem?_cons_succ, List.getElem?_nil, List.set_cons_zero, List.set_cons_succ, List.set_nil, Option.some.injEq, D.int.injEq, D.bl.injEq, D.str.injEq, D.ref.injEq, D.ty.injEq, D.tup.injEq, D.lst.injEq, List.cons.injEq, and_true, true_and, ex_two, ex_two', exists_eq_left', exists_eq_left, exists_and_left, exists_and_right, exists_const, exists_eq_right, exists_eq_right', Bool.not_true, Bool.not_false, if_true, if_false, Bool.false_eq_true, reduceCtorEq, false_and, and_false, decide_true, decide_false]
        by_cases c1 : manyOf w ≤ i
        · have e1 : ((manyOf w : Nat) : Int) ≤ (i : Int) := by omega
          simp only [e1, decide_true, if_true]
          exact ⟨sz _ (by omega), fin (.inl c1)⟩
        · have e1 : ¬ ((manyOf w : Nat) : Int) ≤ (i : Int) := by omega
          simp only [e1, decide_false, Bool.false_eq_true, if_false]
          by_cases c2 : 7 < manyOf w
          · have e2 : (7 : Int) < ((manyOf w : Nat) : Int) := by omega
            simp only [e2, decide_true, if_true]
            exact ⟨sz _ (by omega), fin (.inr (.inl c2))⟩
          · have e2 : ¬ (7 : Int) < ((manyOf w : Nat) : Int) := by omega
            simp only [e2, decide_false, Bool.false_eq_true, if_false, List.length_map]
            refine ne_ints ⟨_, rfl, ?_⟩
            by_cases c3 : (nums line).length = manyOf w - i
            · have e3 : ((nums line).length : Int) = ((manyOf w : Nat) : Int) - (i : Int) := by omega
              simp only [e3, decide_true, Bool.not_true, Bool.false_eq_true, if_false]
              refine dComp_filter outI id trivial (fun d hd K2 k2 => ?_) ?_
              · obtain ⟨y, hy, rfl⟩ := List.mem_map.mp hd
                simp only [dRet, dRetN, dSeq, dAsg, dDrop, dIfS, dNext, dBreak, dCont, dPar, dSetL, dSetD, dFor, dVar, dC, dOp, dAndV, dOrV, dNotV, dAnd, dOr, dNot, dIf, dTest, dChain, dNil, dCons, dTup, dLst, dLstM, dStar, dNeg, dCB, dCall, dCallK, dMthT, dMth0, dLc, dYes, dISeq, dIStr, dIEnum, dIZip, dIRng1, dIRng2, dSl, dPart, dNoPart, dRaise, dDisp1, dNewD, dRevL, dRevT, dSortSet, dSortSetL, dIRng3, dGet2, dIKeys, dNewT, dSetT, dLstRg, dPar3, dLcM, dAugL, dSetdT, dDispT, dIItemsT, dIValsT, rdDInP, dFld, dSetF, dMake, dIKeysT, rdIsC, dCntC, dTupC, dSlC, dRevC, dISeqX, dMeth, dMeth0, dSetM, dNewM, lnX_t, lnX_l, srX_t, dLamA, dLamB, gdName, gdTup, gdCons, gdNil, dstart, dwipe, dAug, rdInt, rdSub, rdLt, rdLe, rdGt, rdGe, rdFdiv, rdMod, rdPow, at0, at1, at2, i30, i31, i32, set0, set1, set2, MO.lst.injEq, gup_same, gup_gup, ad_ii, ad_ss, ad_tt, ad_ll, mu_ii, mu_li, mu_ti, ix_t, ix_l, ix_s, ix_r, ix_w, ln_t, ln_l, ln_s, ln_w, ln_r, sr_t, sr_l, sr_s, sr_r, sl_t, sl_l, sl_s, sl_r, sl_w, tu_t, tu_l, tu_r, li_t, li_l, li_r, lm_t, lm_l, mx2, mn2, ab1, in1, is2, rdIsB, rdNotB, rdIsN, rdNotN, TD.isNon, List.map_cons, List.map_nil, List.length_cons, List.length_nil, List.replicate_succ, List.replicate_zero, List.cons_append, List.nil_append, List.append_nil, Nat.zero_add, Nat.reduceAdd, Nat.reduceSub, Nat.sub_self, Nat.add_sub_cancel, List.getElem?_cons_zero, List.getElem?_cons_succ, List.getElem?_nil, List.set_cons_zero, List.set_cons_succ, List.set_nil, Option.some.injEq, D.int.injEq, D.bl.injEq, D.str.injEq, D.ref.injEq, D.ty.injEq, D.tup.injEq, D.lst.injEq, List.cons.injEq, and_true, true_and, ex_two, ex_two', exists_eq_left', exists_eq_left, exists_and_left, exists_and_right, exists_const, exists_eq_right, exists_eq_right', Bool.not_true, Bool.not_false, if_true, if_false, Bool.false_eq_true, reduceCtorEq, false_and, and_false, decide_true, decide_false]
                simp only [outI] at k2
                by_cases d1 : 0 ≤ y
                · by_cases d2 : y ≤ 1000
                  · simp [d1, d2] at k2 ⊢
                    exact k2
                  · simp [d1, d2] at k2 ⊢
                    exact k2
                · simp [d1] at k2 ⊢
                  exact k2
              · rw [List.nil_append]
                refine ⟨sz _ (by omega), ne_nil (outI_pure _) ⟨_, rfl, ?_⟩⟩
                rw [outI_nil]
                by_cases c4 : ∀ y ∈ nums line, 0 ≤ y ∧ y ≤ 1000
                · rw [decide_eq_true c4]
                  simp only [Bool.not_true, Bool.false_eq_true, if_false]
                  have nb : ¬ LineBad (manyOf w) i line := by
                    unfold LineBad
                    rintro (z | z | z | z)
                    · exact c1 z
                    · exact c2 z
                    · exact z c3
                    · exact z c4
                  refine ⟨.inl ⟨_, gup_same⟩, p, _, _, rfl, rfl, gup_same, ?_, ?_⟩
                  · rw [List.length_map]
                    have := sz5 (n := 200000) (by omega)
                    omega
                  · rw [gup_gup]
                    refine hK _ _ ⟨acc ++ [nums line], _, _, _, _, rfl, by rw [List.length_append, ha] <;> rfl, by omega, by rw [List.map_append] <;> rfl, ?_⟩
                    rw [hg]
                    show (if LineBad (manyOf w) i line then TR.bad (i + 1) else _) = _
                    rw [if_neg nb]
                · rw [decide_eq_false c4]
                  simp only [Bool.not_false, if_true]
                  exact ⟨sz _ (by omega), fin (.inr (.inr (.inr c4)))⟩
            · have e3 : ¬ ((nums line).length : Int) = ((manyOf w : Nat) : Int) - (i : Int) := by omega
              simp only [e3, decide_false, Bool.not_false, if_true]
              exact ⟨sz _ (by omega), fin (.inr (.inr (.inl c3)))⟩
    · obtain ⟨acc, o4, o5, o6, o7, rfl, ha, hs, rfl, hg⟩ := hI
      rw [rngD_len, Nat.zero_add] at *
      rw [List.drop_length] at hg
      have q := h2 (gup G p (.lst (acc.map intsD))) (ext_new hp)
      rw [hg] at q
      unfold go at q
      simp only [dRet, dRetN, dSeq, dAsg, dDrop, dIfS, dNext, dBreak, dCont, dPar, dSetL, dSetD, dFor, dVar, dC, dOp, dAndV, dOrV, dNotV, dAnd, dOr, dNot, dIf, dTest, dChain, dNil, dCons, dTup, dLst, dLstM, dStar, dNeg, dCB, dCall, dCallK, dMthT, dMth0, dLc, dYes, dISeq, dIStr, dIEnum, dIZip, dIRng1, dIRng2, dSl, dPart, dNoPart, dRaise, dDisp1, dNewD, dRevL, dRevT, dSortSet, dSortSetL, dIRng3, dGet2, dIKeys, dNewT, dSetT, dLstRg, dPar3, dLcM, dAugL, dSetdT, dDispT, dIItemsT, dIValsT, rdDInP, dFld, dSetF, dMake, dIKeysT, rdIsC, dCntC, dTupC, dSlC, dRevC, dISeqX, dMeth, dMeth0, dSetM, dNewM, lnX_t, lnX_l, srX_t, dLamA, dLamB, gdName, gdTup, gdCons, gdNil, dstart, dwipe, dAug, rdInt, rdSub, rdLt, rdLe, rdGt, rdGe, rdFdiv, rdMod, rdPow, at0, at1, at2, i30, i31, i32, set0, set1, set2, MO.lst.injEq, gup_same, gup_gup, ad_ii, ad_ss, ad_tt, ad_ll, mu_ii, mu_li, mu_ti, ix_t, ix_l, ix_s, ix_r, ix_w, ln_t, ln_l, ln_s, ln_w, ln_r, sr_t, sr_l, sr_s, sr_r, sl_t, sl_l, sl_s, sl_r, sl_w, tu_t, tu_l, tu_r, li_t, li_l, li_r, lm_t, lm_l, mx2, mn2, ab1, in1, is2, rdIsB, rdNotB, rdIsN, rdNotN, TD.isNon, List.map_cons, List.map_nil, List.length_cons, List.length_nil, List.replicate_succ, List.replicate_zero, List.cons_append, List.nil_append, List.append_nil, Nat.zero_add, Nat.reduceAdd, Nat.reduceSub, Nat.sub_self, Nat.add_sub_cancel, List.getElem?_cons_zero, List.getElem?_cons_succ, List.getElem?_nil, List.set_cons_zero, List.set_cons_succ, List.set_nil, Option.some.injEq, D.int.injEq, D.bl.injEq, D.str.injEq, D.ref.injEq, D.ty.injEq, D.tup.injEq, D.lst.injEq, List.cons.injEq, and_true, true_and, ex_two, ex_two', exists_eq_left', exists_eq_left, exists_and_left, exists_and_right, exists_const, exists_eq_right, exists_eq_right', Bool.not_true, Bool.not_false, if_true, if_false, Bool.false_eq_true, reduceCtorEq, false_and, and_false, decide_true, decide_false, List.length_map]
      refine eq_ints ⟨_, rfl, ?_⟩
      by_cases c1 : acc.length < manyOf w
      · have e1 : ¬ (acc.length : Int) = ((manyOf w : Nat) : Int) := by omega
        rw [if_pos c1] at q
        simp only [e1, decide_false, Bool.false_eq_true, if_false]
        exact ⟨_, gup_same, sz _ (by omega), by rw [List.length_map]; exact q⟩
      · have e1 : (acc.length : Int) = ((manyOf w : Nat) : Int) := by omega
        rw [if_neg c1] at q
        simp only [e1, decide_true, if_true]
        exact ⟨_, gup_same, sz _ (by omega), q⟩
  · exact h.elim
end K00
namespace K00
open PySem L2 TD
theorem cutX_map {α β : Type} (f : α → β) (xs : List α) (lo hi : Option Int) : cutX (xs.map f) lo hi = (cutX xs lo hi).map f := by
  unfold cutX
  rw [List.length_map, List.map_take, List.map_drop]
structure Fine (n : Nat) (v : Str) : Prop where
  okt : Okt v
  len : v.length ≤ n
theorem Fine.mono {n m : Nat} {v : Str} (h : Fine n v) (hl : n ≤ m) : Fine m v := ⟨h.okt, Nat.le_trans h.len hl⟩
theorem Fine.add {n m : Nat} {v u : Str} (h : Fine n v) (k : Fine m u) : Fine (n + m) (v ++ u) := ⟨okt_append h.okt k.okt, by rw [len_append]; have := h.len; have := k.len; omega⟩
theorem Fine.cut {n : Nat} {v : Str} (h : Fine n v) (lo hi : Option Int) : Fine n (cutS v lo hi) := ⟨okt_cutS h.okt, Nat.le_trans (cutS_length _ _ _) h.len⟩
theorem okt_dec {v : Str} (h : (TL.tl v).all (fun c => decide (c < 1114112)) = true) : Okt v := fun c hc => by
  rw [List.all_eq_true] at h
  exact of_decide_eq_true (h c hc)
def sp__law_bent (A : Ad) : SpD := fun zs G Q _ => match zs with
  | [.ref a, .str w] => ∃ m, Dc G a m ∧ m ≤ 500000 ∧ Fine 150 w ∧ ∀ w' G', Fine 1000 w' → Upd a (m + 10) G G' → Q (.str w') G'
  | _ => False
theorem len__law_bent {A : Ad} {zs : List D} {G : GH} {Q : DK} {x : XD} (h : sp__law_bent A zs G Q x) : zs.length = 2 := by
  unfold sp__law_bent at h
  split at h <;> first | rfl | exact h.elim
def ds__law_bent (A : Ad) : DS := dSeq (dPar 2 3 (dMthT "str" rdSplit (dVar 1) (dCons (dC (.str "\n")) dNil)) (dCall (sp__law_roll A) (dCons (dVar 0) (dCons (dOp rdAdd (dCB rdLen (dCons (dVar 1) dNil)) (dC (.int 1))) dNil)))) (dSeq (dAsg (dCall (sp__law_roll A) (dCons (dVar 0) (dCons (dCB rdLen (dCons (dVar 2) dNil)) dNil))) (gdName 4)) (dSeq (dAsg (dLst (dCons (dOp rdAdd (dOp rdAdd (dSl (dVar 1) dNoPart (dPart (dVar 3))) (dCall (sp__law_pick A) (dCons (dVar 0) (dCons (dLst (dCons (dC (.str "0")) (dCons (dC (.str " ")) (dCons (dC (.str "-")) (dCons (dC (.str "1")) (dCons (dC (.str "9")) (dCons (dC (.str "\n")) (dCons (dC (.str "5")) (dCons (dC (.str "a")) dNil))))))))) dNil)))) (dSl (dVar 1) (dPart (dVar 3)) dNoPart)) (dCons (dOp rdAdd (dSl (dVar 1) dNoPart (dPart (dVar 3))) (dSl (dVar 1) (dPart (dOp rdAdd (dVar 3) (dC (.int 1)))) dNoPart)) (dCons (dOp rdAdd (dVar 1) (dC (.str "\n"))) (dCons (dOp rdAdd (dC (.str " ")) (dVar 1)) (dCons (dOp rdAdd (dVar 1) (dC (.str "\n1"))) dNil)))))) (gdName 5)) (dSeq (dAsg (dOp rdAdd (dVar 5) (dLst (dCons (dMthT "str" rdJoin (dC (.str "\n")) (dCons (dOp rdAdd (dSl (dVar 2) dNoPart (dPart (dVar 4))) (dSl (dVar 2) (dPart (dOp rdAdd (dVar 4) (dC (.int 1)))) dNoPart)) dNil)) (dCons (dMthT "str" rdJoin (dC (.str "\n")) (dCons (dOp rdAdd (dOp rdAdd (dSl (dVar 2) dNoPart (dPart (dVar 4))) (dSl (dVar 2) (dPart (dVar 4)) (dPart (dOp rdAdd (dVar 4) (dC (.int 1)))))) (dSl (dVar 2) (dPart (dVar 4)) dNoPart)) dNil)) (dCons (dMthT "str" rdJoin (dC (.str "\n")) (dCons (dRevL (dVar 2)) dNil)) (dCons (dC (.str "")) dNil)))))) (gdName 5)) (dRet (dCall (sp__law_pick A) (dCons (dVar 0) (dCons (dVar 5) dNil)))))))
def N__law_bent : List PySem.Str := ["dice", "text", "lines", "at", "line", "odd"]
theorem bent_pick {z : D} (hz : z ∈ [D.str "0", .str " ", .str "-", .str "1", .str "9", .str "\n", .str "5", .str "a"]) : ∃ v, z = .str v ∧ Fine 1 v := by
  simp only [List.mem_cons, List.not_mem_nil, or_false] at hz
  rcases hz with rfl | rfl | rfl | rfl | rfl | rfl | rfl | rfl <;> exact ⟨_, rfl, okt_dec (by decide +kernel), by decide +kernel⟩
theorem fine_join {ps : List Str} {a b : Nat} (h : ∀ p ∈ ps, Okt p) (ht : tot ps ≤ a) (hl : ps.length ≤ b) : Fine (a + b) (Txt.join NL ps) := by
  refine ⟨okt_join okt_NL h, ?_⟩
  have := len_join NL ps
  rw [sep_NL.one] at this
  omega
theorem join_size {ps : List Str} (ht : tot ps ≤ 1000) (hl : ps.length ≤ 1000) : (ps.map (·.length)).sum + ps.length * NL.length ≤ 16777216 := by
  rw [sep_NL.one]
  unfold tot at ht
  omega
theorem read__law_bent {A : Ad} {zs : List D} {G : GH} {Q : DK} {x : XD} (h : sp__law_bent A zs G Q x) : ds__law_bent A { nx := fun _ G' => Q .non G', rt := Q, xx := fun _ => x } (dstart N__law_bent zs) G := by
  unfold sp__law_bent at h
  split at h
  · rename_i a w
    obtain ⟨m, d, hm, fw, q⟩ := h
    unfold N__law_bent ds__law_bent
    have hwl := fw.len
    have hL : (Txt.split w "\n").length ≤ w.length + 1 := split_len sep_NL
    have hT : tot (Txt.split w "\n") ≤ w.length := split_tot sep_NL
    have hP : 1 ≤ (Txt.split w "\n").length := split_pos sep_NL
    have hO : ∀ p ∈ Txt.split w "\n", Okt p := fun p hp => split_okt sep_NL fw.okt hp
    simp only [dRet, dRetN, dSeq, dAsg, dDrop, dIfS, dNext, dBreak, dCont, dPar, dSetL, dSetD, dFor, dVar, dC, dOp, dAndV, dOrV, dNotV, dAnd, dOr, dNot, dIf, dTest, dChain, dNil, dCons, dTup, dLst, dLstM, dStar, dNeg, dCB, dCall, dCallK, dMthT, dMth0, dLc, dYes, dISeq, dIStr, dIEnum, dIZip, dIRng1, dIRng2, dSl, dPart, dNoPart, dRaise, dDisp1, dNewD, dRevL, dRevT, dSortSet, dSortSetL, dIRng3, dGet2, dIKeys, dNewT, dSetT, dLstRg, dPar3, dLcM, dAugL, dSetdT, dDispT, dIItemsT, dIValsT, rdDInP, dFld, dSetF, dMake, dIKeysT, rdIsC, dCntC, dTupC, dSlC, dRevC, dISeqX, dMeth, dMeth0, dSetM, dNewM, lnX_t, lnX_l, srX_t, dLamA, dLamB, gdName, gdTup, gdCons, gdNil, dstart, dwipe, dAug, rdInt, rdSub, rdLt, rdLe, rdGt, rdGe, rdFdiv, rdMod, rdPow, at0, at1, at2, i30, i31, i32, set0, set1, set2, MO.lst.injEq, gup_same, gup_gup, ad_ii, ad_ss, ad_tt, ad_ll, mu_ii, mu_li, mu_ti, ix_t, ix_l, ix_s, ix_r, ix_w, ln_t, ln_l, ln_s, ln_w, ln_r, sr_t, sr_l, sr_s, sr_r, sl_t, sl_l, sl_s, sl_r, sl_w, tu_t, tu_l, tu_r, li_t, li_l, li_r, lm_t, lm_l, mx2, mn2, ab1, in1, is2, rdIsB, rdNotB, rdIsN, rdNotN, TD.isNon, List.map_cons, List.map_nil, List.length_cons, List.length_nil, List.replicate_succ, List.replicate_zero, List.cons_append, List.nil_append, List.append_nil, Nat.zero_add, Nat.reduceAdd, Nat.reduceSub, Nat.sub_self, Nat.add_sub_cancel, List.getElem?_cons_zero, List.getElem?_cons_succ, List.getElem?_nil, List.set_cons_zero, List.set_cons_succ, List.set_nil, Option.some.injEq, D.int.injEq, D.bl.injEq, D.str.injEq, D.ref.injEq, D.ty.injEq, D.tup.injEq, D.lst.injEq, List.cons.injEq, and_true, true_and, ex_two, ex_two', exists_eq_left', exists_eq_left, exists_and_left, exists_and_right, exists_const, exists_eq_right, exists_eq_right', Bool.not_true, Bool.not_false, if_true, if_false, Bool.false_eq_true, reduceCtorEq, false_and, and_false, decide_true, decide_false, tyM, rdSplit]
    refine ⟨by decide +kernel, sz5 (by omega), sz5 (by omega), ?_⟩
    refine roll_of d (by omega) (by omega) (by omega) fun r1 G1 hr1 u1 => ?_
    generalize Txt.split w (Str.ofString "\n") = L at *
    simp only [dRet, dRetN, dSeq, dAsg, dDrop, dIfS, dNext, dBreak, dCont, dPar, dSetL, dSetD, dFor, dVar, dC, dOp, dAndV, dOrV, dNotV, dAnd, dOr, dNot, dIf, dTest, dChain, dNil, dCons, dTup, dLst, dLstM, dStar, dNeg, dCB, dCall, dCallK, dMthT, dMth0, dLc, dYes, dISeq, dIStr, dIEnum, dIZip, dIRng1, dIRng2, dSl, dPart, dNoPart, dRaise, dDisp1, dNewD, dRevL, dRevT, dSortSet, dSortSetL, dIRng3, dGet2, dIKeys, dNewT, dSetT, dLstRg, dPar3, dLcM, dAugL, dSetdT, dDispT, dIItemsT, dIValsT, rdDInP, dFld, dSetF, dMake, dIKeysT, rdIsC, dCntC, dTupC, dSlC, dRevC, dISeqX, dMeth, dMeth0, dSetM, dNewM, lnX_t, lnX_l, srX_t, dLamA, dLamB, gdName, gdTup, gdCons, gdNil, dstart, dwipe, dAug, rdInt, rdSub, rdLt, rdLe, rdGt, rdGe, rdFdiv, rdMod, rdPow, at0, at1, at2, i30, i31, i32, set0, set1, set2, MO.lst.injEq, gup_same, gup_gup, ad_ii, ad_ss, ad_tt, ad_ll, mu_ii, mu_li, mu_ti, ix_t, ix_l, ix_s, ix_r, ix_w, ln_t, ln_l, ln_s, ln_w, ln_r, sr_t, sr_l, sr_s, sr_r, sl_t, sl_l, sl_s, sl_r, sl_w, tu_t, tu_l, tu_r, li_t, li_l, li_r, lm_t, lm_l, mx2, mn2, ab1, in1, is2, rdIsB, rdNotB, rdIsN, rdNotN, TD.isNon, List.map_cons, List.map_nil, List.length_cons, List.length_nil, List.replicate_succ, List.replicate_zero, List.cons_append, List.nil_append, List.append_nil, Nat.zero_add, Nat.reduceAdd, Nat.reduceSub, Nat.sub_self, Nat.add_sub_cancel, List.getElem?_cons_zero, List.getElem?_cons_succ, List.getElem?_nil, List.set_cons_zero, List.set_cons_succ, List.set_nil, Option.some.injEq, D.int.injEq, D.bl.injEq, D.str.injEq, D.ref.injEq, D.ty.injEq, D.tup.injEq, D.lst.injEq, List.cons.injEq, and_true, true_and, ex_two, ex_two', exists_eq_left', exists_eq_left, exists_and_left, exists_and_right, exists_const, exists_eq_right, exists_eq_right', Bool.not_true, Bool.not_false, if_true, if_false, Bool.false_eq_true, reduceCtorEq, false_and, and_false, decide_true, decide_false, List.length_map]
    refine roll_of u1.2 (by omega) (by omega) (by omega) fun r2 G2 hr2 u2 => ?_
    simp only [dRet, dRetN, dSeq, dAsg, dDrop, dIfS, dNext, dBreak, dCont, dPar, dSetL, dSetD, dFor, dVar, dC, dOp, dAndV, dOrV, dNotV, dAnd, dOr, dNot, dIf, dTest, dChain, dNil, dCons, dTup, dLst, dLstM, dStar, dNeg, dCB, dCall, dCallK, dMthT, dMth0, dLc, dYes, dISeq, dIStr, dIEnum, dIZip, dIRng1, dIRng2, dSl, dPart, dNoPart, dRaise, dDisp1, dNewD, dRevL, dRevT, dSortSet, dSortSetL, dIRng3, dGet2, dIKeys, dNewT, dSetT, dLstRg, dPar3, dLcM, dAugL, dSetdT, dDispT, dIItemsT, dIValsT, rdDInP, dFld, dSetF, dMake, dIKeysT, rdIsC, dCntC, dTupC, dSlC, dRevC, dISeqX, dMeth, dMeth0, dSetM, dNewM, lnX_t, lnX_l, srX_t, dLamA, dLamB, gdName, gdTup, gdCons, gdNil, dstart, dwipe, dAug, rdInt, rdSub, rdLt, rdLe, rdGt, rdGe, rdFdiv, rdMod, rdPow, at0, at1, at2, i30, i31, i32, set0, set1, set2, MO.lst.injEq, gup_same, gup_gup, ad_ii, ad_ss, ad_tt, ad_ll, mu_ii, mu_li, mu_ti, ix_t, ix_l, ix_s, ix_r, ix_w, ln_t, ln_l, ln_s, ln_w, ln_r, sr_t, sr_l, sr_s, sr_r, sl_t, sl_l, sl_s, sl_r, sl_w, tu_t, tu_l, tu_r, li_t, li_l, li_r, lm_t, lm_l, mx2, mn2, ab1, in1, is2, rdIsB, rdNotB, rdIsN, rdNotN, TD.isNon, List.map_cons, List.map_nil, List.length_cons, List.length_nil, List.replicate_succ, List.replicate_zero, List.cons_append, List.nil_append, List.append_nil, Nat.zero_add, Nat.reduceAdd, Nat.reduceSub, Nat.sub_self, Nat.add_sub_cancel, List.getElem?_cons_zero, List.getElem?_cons_succ, List.getElem?_nil, List.set_cons_zero, List.set_cons_succ, List.set_nil, Option.some.injEq, D.int.injEq, D.bl.injEq, D.str.injEq, D.ref.injEq, D.ty.injEq, D.tup.injEq, D.lst.injEq, List.cons.injEq, and_true, true_and, ex_two, ex_two', exists_eq_left', exists_eq_left, exists_and_left, exists_and_right, exists_const, exists_eq_right, exists_eq_right', Bool.not_true, Bool.not_false, if_true, if_false, Bool.false_eq_true, reduceCtorEq, false_and, and_false, decide_true, decide_false, List.length_map]
    refine ⟨sz5 (by omega), sz _ (by omega), ?_⟩
    refine pick_of u2.2 (by omega) (by decide) (by decide) fun z hz G3 u3 => ?_
    obtain ⟨v, rfl, fv⟩ := bent_pick hz
    have f1 := (fw.cut none (some (r1 : Int))).add fv
    have f2 := fw.cut (some (r1 : Int)) none
    simp only [dRet, dRetN, dSeq, dAsg, dDrop, dIfS, dNext, dBreak, dCont, dPar, dSetL, dSetD, dFor, dVar, dC, dOp, dAndV, dOrV, dNotV, dAnd, dOr, dNot, dIf, dTest, dChain, dNil, dCons, dTup, dLst, dLstM, dStar, dNeg, dCB, dCall, dCallK, dMthT, dMth0, dLc, dYes, dISeq, dIStr, dIEnum, dIZip, dIRng1, dIRng2, dSl, dPart, dNoPart, dRaise, dDisp1, dNewD, dRevL, dRevT, dSortSet, dSortSetL, dIRng3, dGet2, dIKeys, dNewT, dSetT, dLstRg, dPar3, dLcM, dAugL, dSetdT, dDispT, dIItemsT, dIValsT, rdDInP, dFld, dSetF, dMake, dIKeysT, rdIsC, dCntC, dTupC, dSlC, dRevC, dISeqX, dMeth, dMeth0, dSetM, dNewM, lnX_t, lnX_l, srX_t, dLamA, dLamB, gdName, gdTup, gdCons, gdNil, dstart, dwipe, dAug, rdInt, rdSub, rdLt, rdLe, rdGt, rdGe, rdFdiv, rdMod, rdPow, at0, at1, at2, i30, i31, i32, set0, set1, set2, MO.lst.injEq, gup_same, gup_gup, ad_ii, ad_ss, ad_tt, ad_ll, mu_ii, mu_li, mu_ti, ix_t, ix_l, ix_s, ix_r, ix_w, ln_t, ln_l, ln_s, ln_w, ln_r, sr_t, sr_l, sr_s, sr_r, sl_t, sl_l, sl_s, sl_r, sl_w, tu_t, tu_l, tu_r, li_t, li_l, li_r, lm_t, lm_l, mx2, mn2, ab1, in1, is2, rdIsB, rdNotB, rdIsN, rdNotN, TD.isNon, List.map_cons, List.map_nil, List.length_cons, List.length_nil, List.replicate_succ, List.replicate_zero, List.cons_append, List.nil_append, List.append_nil, Nat.zero_add, Nat.reduceAdd, Nat.reduceSub, Nat.sub_self, Nat.add_sub_cancel, List.getElem?_cons_zero, List.getElem?_cons_succ, List.getElem?_nil, List.set_cons_zero, List.set_cons_succ, List.set_nil, Option.some.injEq, D.int.injEq, D.bl.injEq, D.str.injEq, D.ref.injEq, D.ty.injEq, D.tup.injEq, D.lst.injEq, List.cons.injEq, and_true, true_and, ex_two, ex_two', exists_eq_left', exists_eq_left, exists_and_left, exists_and_right, exists_const, exists_eq_right, exists_eq_right', Bool.not_true, Bool.not_false, if_true, if_false, Bool.false_eq_true, reduceCtorEq, false_and, and_false, decide_true, decide_false, List.length_map]
    have f3 := fw.cut (some ((r1 : Int) + 1)) none
    have n1 : ("\n" : Str).length = 1 := sep_NL.one
    have n2 : (" " : Str).length = 1 := sep_SP.one
    have n3 : ("\n1" : Str).length = 2 := by decide +kernel
    have l1 := f1.len
    have l2 := f2.len
    have l3 := f3.len
    have l4 := (fw.cut none (some (r1 : Int))).len
    have l5 := fv.len
    have x1 := len_cutX L none (some (r2 : Int))
    have x2 := len_cutX L (some ((r2 : Int) + 1)) none
    have x3 := len_cutX L (some (r2 : Int)) (some ((r2 : Int) + 1))
    have x4 := len_cutX L (some (r2 : Int)) none
    have t1 := tot_cutX L none (some (r2 : Int))
    have t2 := tot_cutX L (some ((r2 : Int) + 1)) none
    have t3 := tot_cutX L (some (r2 : Int)) (some ((r2 : Int) + 1))
    have t4 := tot_cutX L (some (r2 : Int)) none
    simp only [cutX_map, List.length_map, ← List.map_append, ← List.map_reverse, n1, n2, n3, rdJoin]
    refine ⟨sz5 (by omega), sz5 (by omega), sz5 (by omega), sz5 (by omega), sz5 (by omega), sz5 (by omega), sz5 (by omega), sz5 (by omega), sz5 (by omega), sz _ (by omega), sz5 (by omega), ?_⟩
    have p1 : ∀ p ∈ cutX L none (some (r2 : Int)) ++ cutX L (some ((r2 : Int) + 1)) none, Okt p := fun p hp => by
      rcases List.mem_append.mp hp with hp | hp <;> exact hO p (mem_cutX hp)
    have p2 : ∀ p ∈ cutX L none (some (r2 : Int)) ++ cutX L (some (r2 : Int)) (some ((r2 : Int) + 1)) ++ cutX L (some (r2 : Int)) none, Okt p := fun p hp => by
      rcases List.mem_append.mp hp with hp | hp
      · rcases List.mem_append.mp hp with hp | hp <;> exact hO p (mem_cutX hp)
      · exact hO p (mem_cutX hp)
    have p3 : ∀ p ∈ L.reverse, Okt p := fun p hp => hO p (List.mem_reverse.mp hp)
    have e1 : (cutX L none (some (r2 : Int)) ++ cutX L (some ((r2 : Int) + 1)) none).length ≤ 302 := by rw [List.length_append]; omega
    have e2 : (cutX L none (some (r2 : Int)) ++ cutX L (some (r2 : Int)) (some ((r2 : Int) + 1)) ++ cutX L (some (r2 : Int)) none).length ≤ 453 := by rw [List.length_append, List.length_append]; omega
    have e3 : L.reverse.length ≤ 151 := by rw [List.length_reverse]; omega
    have g1 : tot (cutX L none (some (r2 : Int)) ++ cutX L (some ((r2 : Int) + 1)) none) ≤ 300 := by rw [tot_append]; omega
    have g2 : tot (cutX L none (some (r2 : Int)) ++ cutX L (some (r2 : Int)) (some ((r2 : Int) + 1)) ++ cutX L (some (r2 : Int)) none) ≤ 450 := by rw [tot_append, tot_append]; omega
    have g3 : tot L.reverse ≤ 150 := by rw [tot_reverse]; omega
    have k1 := fine_join p1 g1 e1
    have k2 := fine_join p2 g2 e2
    have k3 := fine_join p3 g3 e3
    refine ⟨_, _, rfl, rfl, join_size (by omega) (by omega), sz5 (by omega), sz5 (by rw [List.length_append]; omega), _, _, rfl, rfl, join_size (by omega) (by omega), _, _, rfl, rfl, join_size (by omega) (by omega), sz _ (by omega), sz _ (by omega), ?_⟩
    refine pick_of u3.2 (by omega) (by show 0 < 9; decide) (by show 9 < 1000000; decide) fun z hz G4 u4 => ?_
    have uu := ((((u1.trans u2).trans u3).trans u4).mono (show m + 1 + 1 + 1 + 1 ≤ m + 10 by omega))
    have fn : Fine 1 ("\n" : Str) := ⟨okt_NL, by omega⟩
    have fs : Fine 1 (" " : Str) := ⟨okt_SP, by omega⟩
    have f1n : Fine 2 ("\n1" : Str) := ⟨okt_dec (by decide +kernel), by omega⟩
    have f0 : Fine 0 ("" : Str) := ⟨okt_dec (by decide +kernel), by decide +kernel⟩
    have all : ∃ v, z = .str v ∧ Fine 1000 v := by
      simp only [List.mem_cons, List.not_mem_nil, or_false] at hz
      rcases hz with rfl | rfl | rfl | rfl | rfl | rfl | rfl | rfl | rfl
      · exact ⟨_, rfl, (f1.add f2).mono (by omega)⟩
      · exact ⟨_, rfl, ((fw.cut _ _).add f3).mono (by omega)⟩
      · exact ⟨_, rfl, (fw.add fn).mono (by omega)⟩
      · exact ⟨_, rfl, (fs.add fw).mono (by omega)⟩
      · exact ⟨_, rfl, (fw.add f1n).mono (by omega)⟩
      · exact ⟨_, rfl, k1.mono (by omega)⟩
      · exact ⟨_, rfl, k2.mono (by omega)⟩
      · exact ⟨_, rfl, k3.mono (by omega)⟩
      · exact ⟨_, rfl, f0.mono (by omega)⟩
    obtain ⟨v', rfl, fv'⟩ := all
    exact q v' G4 fv' uu
  · exact h.elim
end K00
/-! # what repr gives for what was read -/
namespace K00
open PySem L2 TD TL
theorem shownAll_map : ∀ xs : List PyData, PyData.shownAll xs = xs.map PyData.shown
  | [] => by rw [PyData.shownAll, List.map_nil]
  | x :: xs => by rw [PyData.shownAll, List.map_cons, shownAll_map xs]
theorem showableAll_of : ∀ xs : List PyData, (∀ x ∈ xs, x.showable = true) → PyData.showableAll xs = true
  | [], _ => by rw [PyData.showableAll]
  | x :: xs, h => by rw [PyData.showableAll, h x List.mem_cons_self, showableAll_of xs fun y hy => h y (List.mem_cons_of_mem _ hy)] <;> rfl
theorem tupT_len (ts : List Str) : (tupleText ts).length ≤ tot ts + ts.length * 2 + 3 := by
  have h := len_join ", " ts
  rw [TL.join_eq] at h
  have e2 : (", " : Str).length = 2 := by decide +kernel
  rw [e2] at h
  have e1 : ("(" : Str).length = 1 := by decide +kernel
  have e3 : ((if ts.length == 1 then ",)" else ")" : String) : Str).length ≤ 2 := by
    split
    · decide +kernel
    · decide +kernel
  unfold tupleText
  rw [len_append, len_append, e1]
  omega
/-- d is shown in up to n signs -/
structure Sh (n : Nat) (d : D) : Prop where
  able : (toP d).showable = true
  len : (toP d).shown.length ≤ n
theorem tot_le {n : Nat} : ∀ {ts : List Str}, (∀ t ∈ ts, t.length ≤ n) → tot ts ≤ n * ts.length
  | [], _ => Nat.zero_le _
  | t :: ts, h => by
    have ih := tot_le (ts := ts) fun y hy => h y (List.mem_cons_of_mem _ hy)
    have h0 := h t List.mem_cons_self
    unfold tot at *
    rw [List.map_cons, List.sum_cons, List.length_cons, Nat.mul_add]
    omega
theorem sh_tup {n k : Nat} {xs : List D} (hl : xs.length ≤ k) (h : ∀ x ∈ xs, Sh n x) : Sh (n * k + k * 2 + 3) (.tup xs) := by
  refine ⟨?_, ?_⟩
  · rw [toP_tup]
    simp only [PyData.showable]
    refine showableAll_of _ fun y hy => ?_
    obtain ⟨x, hx, rfl⟩ := List.mem_map.mp hy
    exact (h x hx).able
  · rw [toP_tup]
    simp only [PyData.shown]
    rw [shownAll_map]
    have h1 := tupT_len ((xs.map toP).map PyData.shown)
    have h2 := tot_le (n := n) (ts := (xs.map toP).map PyData.shown) fun t ht => by
      obtain ⟨y, hy, rfl⟩ := List.mem_map.mp ht
      obtain ⟨x, hx, rfl⟩ := List.mem_map.mp hy
      exact (h x hx).len
    rw [List.length_map, List.length_map] at h1 h2
    have h3 : n * xs.length ≤ n * k := Nat.mul_le_mul_left n hl
    have h4 : xs.length * 2 ≤ k * 2 := Nat.mul_le_mul_right 2 hl
    omega
theorem sh_int {i : Int} (h0 : 0 ≤ i) (h : i ≤ 9999) : Sh 4 (.int i) := by
  obtain ⟨n, rfl⟩ := Int.eq_ofNat_of_zero_le h0
  refine ⟨?_, ?_⟩
  · rw [toP]
    simp only [PyData.showable]
    exact decide_eq_true (log_nat (by omega))
  · rw [toP]
    simp only [PyData.shown]
    show (stI ((n : Nat) : Int)).length ≤ 4
    rw [TL.len_tl, stI_nat (by omega)]
    exact TL.numL_len (by omega) (by omega)
theorem sh_read : Sh 6 (.str "read") := ⟨by rw [toP]; simp only [PyData.showable], by rw [toP]; simp only [PyData.shown]; decide +kernel⟩
theorem sh_bad : Sh 6 (.str "bad") := ⟨by rw [toP]; simp only [PyData.showable], by rw [toP]; simp only [PyData.shown]; decide +kernel⟩
theorem Sh.mono {n m : Nat} {d : D} (h : Sh n d) (hl : n ≤ m) : Sh m d := ⟨h.able, Nat.le_trans h.len hl⟩
theorem sh_pair {n : Nat} {a b : D} (ha : Sh n a) (hb : Sh n b) : Sh (n * 2 + 2 * 2 + 3) (.tup [a, b]) := sh_tup (by show 2 ≤ 2; omega) fun x hx => by
  simp only [List.mem_cons, List.not_mem_nil, or_false] at hx
  rcases hx with rfl | rfl
  · exact ha
  · exact hb
theorem sh_ints {ns : List Int} (hl : ns.length ≤ 7) (h : ∀ x ∈ ns, 0 ≤ x ∧ x ≤ 1000) : Sh 45 (intsD ns) := sh_tup (n := 4) (k := 7) (by rw [List.length_map]; exact hl) fun d hd => by
  obtain ⟨x, hx, rfl⟩ := List.mem_map.mp hd
  have := h x hx
  exact sh_int (by omega) (by omega)
theorem wt_row {t : Tab} (w : WT t) {r : List Int} (hr : r ∈ t) : r.length ≤ 7 := by
  obtain ⟨j, hj, e⟩ := List.mem_iff_getElem.mp hr
  have := w.row j r (by rw [List.getElem?_eq_getElem hj, e])
  have := w.n7
  omega
theorem sh_tab {t : Tab} (w : WT t) : Sh 332 (tabD t) := sh_tup (n := 45) (k := 7) (by rw [List.length_map]; exact w.n7) fun d hd => by
  obtain ⟨r, hr, rfl⟩ := List.mem_map.mp hd
  exact sh_ints (wt_row w hr) (w.bnd r hr)
/-- what an outcome may be -/
theorem go_bad {many k : Nat} : ∀ (ls : List Str) (i : Nat) (acc : Tab), go many i ls acc = .bad k → acc.length = i → k ≤ i + ls.length + 1
  | [], i, acc, h, hl => by
    unfold go at h
    split at h
    · cases h
      rw [hl]
      show i + 1 ≤ i + 0 + 1
      omega
    · cases h
  | l :: ls, i, acc, h, hl => by
    unfold go at h
    split at h
    · cases h
      rw [List.length_cons]
      omega
    · have := go_bad ls (i + 1) _ h (by rw [List.length_append, hl] <;> rfl)
      rw [List.length_cons]
      omega
theorem tblR_bad {w : Str} {k : Nat} (h : tblR w = .bad k) : k ≤ w.length + 2 := by
  have h1 := go_bad _ _ _ h rfl
  have h2 := split_len (x := w) sep_NL
  omega
/-- fit for repr -/
structure Rp (z : D) : Prop where
  tup : ∃ ds, z = .tup ds
  pure : Pur z
  sh : Sh 1000 z
theorem rp_of {z : D} {G : GH} {Q : DK} (h : Rp z) (q : Q (.str (toP z).shown) G) : rdRepr [z] G Q := by
  obtain ⟨ds, rfl⟩ := h.tup
  exact ⟨ds, rfl, h.pure, h.sh.able, Nat.le_trans h.sh.len (sz5 (by omega)), q⟩
theorem pur_pair {a b : D} (ha : pureN 59 a = true) (hb : pureN 59 b = true) : Pur (.tup [a, b]) := by
  unfold Pur
  rw [pureN_tup, List.all_cons, List.all_cons, ha, hb] <;> rfl
theorem rp_bad {k : Nat} (h : k ≤ 9999) : Rp (.tup [.str "bad", .int (k : Nat)]) :=
  ⟨⟨_, rfl⟩, pur_pair (by decide +kernel) rfl, (sh_pair sh_bad ((sh_int (by omega) (by omega)).mono (by omega))).mono (by omega)⟩
theorem rp_ints {ns : List Int} (hl : ns.length ≤ 7) (h : ∀ x ∈ ns, 0 ≤ x ∧ x ≤ 1000) : Rp (.tup [.str "read", intsD ns]) :=
  ⟨⟨_, rfl⟩, pur_pair (by decide +kernel) (pure_ints 58 ns), (sh_pair (sh_read.mono (by omega)) (sh_ints hl h)).mono (by omega)⟩
theorem rp_tab {t : Tab} (w : WT t) : Rp (.tup [.str "read", tabD t]) :=
  ⟨⟨_, rfl⟩, pur_pair (by decide +kernel) (pure_tab 57 t), (sh_pair (sh_read.mono (by omega)) (sh_tab w)).mono (by omega)⟩
def dueO (w : Str) : D := if OrdOK w then .tup [.str "read", intsD (ordV w)] else .tup [.str "bad", .int 1]
theorem rp_due {w : Str} (h : w.length ≤ 1000) : Rp (dueD (tblR w)) := by
  cases e : tblR w with
  | bad k => exact rp_bad (by have := tblR_bad e; omega)
  | ok t => exact rp_tab (tblR_wt e)
theorem rp_ord (w : Str) : Rp (dueO w) := by
  unfold dueO
  split
  · rename_i h
    have := ordV_in h
    exact rp_ints (by omega) fun x hx => by have := this.2 x hx; omega
  · exact rp_bad (k := 1) (by omega)
end K00
namespace K00
open PySem L2 TD
def ds__law_right (A : Ad) : DS := dSeq (dPar 2 3 (dCB rdTuple (dCons (dLc (dIRng1 (dCons (dCall (sp__law_roll A) (dCons (dVar 0) (dCons (dC (.int 7)) dNil))) dNil)) (gdName 1) dYes (dCall (sp__law_roll A) (dCons (dVar 0) (dCons (dC (.int 5)) dNil))) [1]) dNil)) (dCall (sp__law_k_table A) (dCons (dVar 0) dNil))) (dSeq (dPar 4 5 (dCallK (sp_write_order A) 0 1 [0] dNil (dCons (dVar 2) dNil)) (dCall (sp_write_table A) (dCons (dVar 3) dNil))) (dSeq (dIfS (dOr (dTest (dOp rdNeS (dVar 4) (dMthT "str" rdJoin (dC (.str "")) (dCons (dLc (dISeq (dVar 2)) (gdName 6) dYes (dCB rdStrI (dCons (dVar 6) dNil)) [6]) dNil)))) (dTest (dOp rdNeS (dVar 5) (dMthT "str" rdJoin (dC (.str "\n")) (dCons (dLc (dISeq (dVar 3)) (gdName 8) dYes (dMthT "str" rdJoin (dC (.str " ")) (dCons (dLc (dISeq (dVar 8)) (gdName 7) dYes (dCB rdStrI (dCons (dVar 7) dNil)) [7]) dNil)) [8]) dNil))))) (dRet (dC (.bl false))) dNext) (dSeq (dIfS (dOr (dTest (dOp rdNe (dCall (sp_read_order A) (dCons (dVar 4) dNil)) (dVar 2))) (dOr (dTest (dOp rdNe (dCallK (sp_read_table A) 0 1 [0] dNil (dCons (dVar 5) dNil)) (dVar 3))) (dOr (dTest (dOp rdNe (dCallK (sp_read_order A) 0 1 [0] dNil (dCons (dVar 4) dNil)) (dVar 2))) (dTest (dOp rdNeS (dCallK (sp_write_table A) 0 1 [0] dNil (dCons (dVar 3) dNil)) (dVar 5)))))) (dRet (dC (.bl false))) dNext) (dSeq (dFor (dIRng1 (dCons (dC (.int 8)) dNil)) (gdName 1) (dSeq (dAsg (dTup (dCons (dCall (sp__law_bent A) (dCons (dVar 0) (dCons (dVar 4) dNil))) (dCons (dCall (sp__law_bent A) (dCons (dVar 0) (dCons (dVar 5) dNil))) dNil))) (gdTup (gdCons (gdName 9) (gdCons (gdName 10) gdNil)) 2)) (dSeq (dIfS (dTest (dOp rdNeS (dCB rdRepr (dCons (dLamB A.cTxt A.t_law_right "_law_right.<locals>.<lambda>" "line" "read" "bad" (dCall (sp_read_order A) (dCons (dVar 9) dNil))) dNil)) (dCB rdRepr (dCons (dCall (sp__law_order_due A) (dCons (dVar 9) dNil)) dNil)))) (dRet (dC (.bl false))) dNext) (dIfS (dTest (dOp rdNeS (dCB rdRepr (dCons (dLamB A.cTxt A.t_law_right "_law_right.<locals>.<lambda>" "line" "read" "bad" (dCall (sp_read_table A) (dCons (dVar 10) dNil))) dNil)) (dCB rdRepr (dCons (dCall (sp__law_table_due A) (dCons (dVar 10) dNil)) dNil)))) (dRet (dC (.bl false))) dNext)))) (dSeq (dAsg (dTup (dCons (dCall (sp__law_pick A) (dCons (dVar 0) (dCons (dLst (dCons (dC .non) (dCons (dC (.int 5)) (dCons (dTup dNil) (dCons (dLst (dCons (dC (.str "0")) dNil)) (dCons (dC (.bl true)) (dCons (dOp rdMulS (dC (.str "0")) (dC (.int 1001))) dNil))))))) dNil))) (dCons (dCall (sp__law_pick A) (dCons (dVar 0) (dCons (dLst (dCons (dC .non) (dCons (dLst (dCons (dC (.int 0)) dNil)) (dCons (dTup (dCons (dC (.int 5)) dNil)) (dCons (dOp rdMul (dTup (dCons (dC (.int 0)) dNil)) (dC (.int 7))) (dCons (dTup (dCons (dC (.bl true)) dNil)) (dCons (dTup (dCons (dTup (dCons (dC (.int 1)) (dCons (dC (.int 2)) dNil))) dNil)) (dCons (dTup (dCons (dTup (dCons (dC (.int 1001)) dNil)) dNil)) dNil)))))))) dNil))) dNil))) (gdTup (gdCons (gdName 11) (gdCons (gdName 12) gdNil)) 2)) (dSeq (dAsg (dLst (dCons (dLamB A.cTxt A.t_law_right "_law_right.<locals>.<lambda>" "line" "read" "bad" (dCall (sp_read_order A) (dCons (dVar 11) dNil))) (dCons (dLamB A.cTxt A.t_law_right "_law_right.<locals>.<lambda>" "line" "read" "bad" (dCall (sp_read_table A) (dCons (dVar 11) dNil))) dNil))) (gdName 13)) (dRet (dAndV (dOp rdEq (dVar 13) (dOp rdMul (dLst (dCons (dTup (dCons (dC (.str "bad")) (dCons (dC (.int 0)) dNil))) dNil)) (dC (.int 2)))) (dOp rdEq (dLst (dCons (dLamA A.cBad A.t_law_right "_law_right.<locals>.<lambda>" "name" (dCall (sp_write_order A) (dCons (dVar 12) dNil))) (dCons (dLamA A.cBad A.t_law_right "_law_right.<locals>.<lambda>" "name" (dCall (sp_write_table A) (dCons (dVar 12) dNil))) dNil))) (dLst (dCons (dC (.str "order")) (dCons (dC (.str "table")) dNil))))))))))))
def N__law_right : List PySem.Str := ["dice", "turn", "order", "table", "one", "two", "kind", "toll", "row", "some", "other", "bad", "odd", "told"]
def tl__law_right_5 (A : Ad) : DS := dSeq (dAsg (dTup (dCons (dCall (sp__law_pick A) (dCons (dVar 0) (dCons (dLst (dCons (dC .non) (dCons (dC (.int 5)) (dCons (dTup dNil) (dCons (dLst (dCons (dC (.str "0")) dNil)) (dCons (dC (.bl true)) (dCons (dOp rdMulS (dC (.str "0")) (dC (.int 1001))) dNil))))))) dNil))) (dCons (dCall (sp__law_pick A) (dCons (dVar 0) (dCons (dLst (dCons (dC .non) (dCons (dLst (dCons (dC (.int 0)) dNil)) (dCons (dTup (dCons (dC (.int 5)) dNil)) (dCons (dOp rdMul (dTup (dCons (dC (.int 0)) dNil)) (dC (.int 7))) (dCons (dTup (dCons (dC (.bl true)) dNil)) (dCons (dTup (dCons (dTup (dCons (dC (.int 1)) (dCons (dC (.int 2)) dNil))) dNil)) (dCons (dTup (dCons (dTup (dCons (dC (.int 1001)) dNil)) dNil)) dNil)))))))) dNil))) dNil))) (gdTup (gdCons (gdName 11) (gdCons (gdName 12) gdNil)) 2)) (dSeq (dAsg (dLst (dCons (dLamB A.cTxt A.t_law_right "_law_right.<locals>.<lambda>" "line" "read" "bad" (dCall (sp_read_order A) (dCons (dVar 11) dNil))) (dCons (dLamB A.cTxt A.t_law_right "_law_right.<locals>.<lambda>" "line" "read" "bad" (dCall (sp_read_table A) (dCons (dVar 11) dNil))) dNil))) (gdName 13)) (dRet (dAndV (dOp rdEq (dVar 13) (dOp rdMul (dLst (dCons (dTup (dCons (dC (.str "bad")) (dCons (dC (.int 0)) dNil))) dNil)) (dC (.int 2)))) (dOp rdEq (dLst (dCons (dLamA A.cBad A.t_law_right "_law_right.<locals>.<lambda>" "name" (dCall (sp_write_order A) (dCons (dVar 12) dNil))) (dCons (dLamA A.cBad A.t_law_right "_law_right.<locals>.<lambda>" "name" (dCall (sp_write_table A) (dCons (dVar 12) dNil))) dNil))) (dLst (dCons (dC (.str "order")) (dCons (dC (.str "table")) dNil)))))))
def tl__law_right_4 (A : Ad) : DS := dSeq (dFor (dIRng1 (dCons (dC (.int 8)) dNil)) (gdName 1) (dSeq (dAsg (dTup (dCons (dCall (sp__law_bent A) (dCons (dVar 0) (dCons (dVar 4) dNil))) (dCons (dCall (sp__law_bent A) (dCons (dVar 0) (dCons (dVar 5) dNil))) dNil))) (gdTup (gdCons (gdName 9) (gdCons (gdName 10) gdNil)) 2)) (dSeq (dIfS (dTest (dOp rdNeS (dCB rdRepr (dCons (dLamB A.cTxt A.t_law_right "_law_right.<locals>.<lambda>" "line" "read" "bad" (dCall (sp_read_order A) (dCons (dVar 9) dNil))) dNil)) (dCB rdRepr (dCons (dCall (sp__law_order_due A) (dCons (dVar 9) dNil)) dNil)))) (dRet (dC (.bl false))) dNext) (dIfS (dTest (dOp rdNeS (dCB rdRepr (dCons (dLamB A.cTxt A.t_law_right "_law_right.<locals>.<lambda>" "line" "read" "bad" (dCall (sp_read_table A) (dCons (dVar 10) dNil))) dNil)) (dCB rdRepr (dCons (dCall (sp__law_table_due A) (dCons (dVar 10) dNil)) dNil)))) (dRet (dC (.bl false))) dNext)))) (tl__law_right_5 A)
def tl__law_right_3 (A : Ad) : DS := dSeq (dIfS (dOr (dTest (dOp rdNe (dCall (sp_read_order A) (dCons (dVar 4) dNil)) (dVar 2))) (dOr (dTest (dOp rdNe (dCallK (sp_read_table A) 0 1 [0] dNil (dCons (dVar 5) dNil)) (dVar 3))) (dOr (dTest (dOp rdNe (dCallK (sp_read_order A) 0 1 [0] dNil (dCons (dVar 4) dNil)) (dVar 2))) (dTest (dOp rdNeS (dCallK (sp_write_table A) 0 1 [0] dNil (dCons (dVar 3) dNil)) (dVar 5)))))) (dRet (dC (.bl false))) dNext) (tl__law_right_4 A)
def tl__law_right_2 (A : Ad) : DS := dSeq (dIfS (dOr (dTest (dOp rdNeS (dVar 4) (dMthT "str" rdJoin (dC (.str "")) (dCons (dLc (dISeq (dVar 2)) (gdName 6) dYes (dCB rdStrI (dCons (dVar 6) dNil)) [6]) dNil)))) (dTest (dOp rdNeS (dVar 5) (dMthT "str" rdJoin (dC (.str "\n")) (dCons (dLc (dISeq (dVar 3)) (gdName 8) dYes (dMthT "str" rdJoin (dC (.str " ")) (dCons (dLc (dISeq (dVar 8)) (gdName 7) dYes (dCB rdStrI (dCons (dVar 7) dNil)) [7]) dNil)) [8]) dNil))))) (dRet (dC (.bl false))) dNext) (tl__law_right_3 A)
theorem tl__law_right (A : Ad) : ds__law_right A = dSeq (dPar 2 3 (dCB rdTuple (dCons (dLc (dIRng1 (dCons (dCall (sp__law_roll A) (dCons (dVar 0) (dCons (dC (.int 7)) dNil))) dNil)) (gdName 1) dYes (dCall (sp__law_roll A) (dCons (dVar 0) (dCons (dC (.int 5)) dNil))) [1]) dNil)) (dCall (sp__law_k_table A) (dCons (dVar 0) dNil))) (dSeq (dPar 4 5 (dCallK (sp_write_order A) 0 1 [0] dNil (dCons (dVar 2) dNil)) (dCall (sp_write_table A) (dCons (dVar 3) dNil))) (tl__law_right_2 A)) := rfl
abbrev lamQ : PySem.Str := "_law_right.<locals>.<lambda>"
def sp__law_right (A : Ad) : SpD := fun zs G Q _ => match zs with
  | [.ref a] => ∃ m, Dc G a m ∧ m ≤ 100000 ∧ G A.t_law_right = some (.tab "_law_right.<locals>.<lambda>") ∧ ∀ G', Upd a (m + 10000) G G' → Q (.bl true) G'
  | _ => False
theorem len__law_right {A : Ad} {zs : List D} {G : GH} {Q : DK} {x : XD} (h : sp__law_right A zs G Q x) : zs.length = 1 := by
  unfold sp__law_right at h
  split at h <;> first | rfl | exact h.elim
structure OrdW (ns : List Int) : Prop where
  len : ns.length ≤ 6
  bnd : ∀ x ∈ ns, 0 ≤ x ∧ x ≤ 4
theorem wo_of {A : Ad} {ns : List Int} {G : GH} {Q : DK} {x : XD} (w : OrdW ns) (q : Q (.str (ordT ns)) G) : sp_write_order A [intsD ns] G Q x := by
  refine ⟨pur_ints ns, fun z => ?_, fun ns' e _ _ => by rw [← intsD_inj e]; exact q⟩
  have e : areIn (intsD ns) 0 6 0 4 = true := by
    rw [areIn_ints]
    have hl := w.len
    simp only [Bool.and_eq_true, decide_eq_true_eq, List.all_eq_true]
    exact ⟨⟨by omega, by omega⟩, fun y hy => w.bnd y hy⟩
  rw [e] at z
  cases z
theorem tabD_inj2 {a b : Tab} (h : tabD a = tabD b) : a = b := by
  injection h with h
  induction a generalizing b with
  | nil => cases b with
    | nil => rfl
    | cons => cases h
  | cons x xs ih => cases b with
    | nil => cases h
    | cons y ys =>
      rw [List.map_cons, List.map_cons] at h
      injection h with h1 h2
      rw [intsD_inj h1, ih h2]
theorem wt_of {A : Ad} {t : Tab} {G : GH} {Q : DK} {x : XD} (w : WT t) (q : Q (.str (tabT t)) G) : sp_write_table A [tabD t] G Q x :=
  ⟨pur_tab t, fun z => (by rw [isTab_tab w] at z; cases z), fun t' e _ => by rw [← tabD_inj2 e]; exact q⟩
/-- all that stays through the law's round -/
structure Rnd (A : Ad) (a : Addr) (ns : List Int) (t : Tab) : Prop where
  ow : OrdW ns
  tw : WT t
def vars (a : Addr) (ns : List Int) (t : Tab) : Rho := [some (.ref a), none, some (intsD ns), some (tabD t), some (.str (ordT ns)), some (.str (tabT t)), none, none, none, none, none, none, none, none]
theorem stA {A : Ad} {a : Addr} {m : Nat} {G : GH} {Q : DK} {x : XD} (d : Dc G a m) (hm : m ≤ 200000)
    (rest : ∀ (ns : List Int) (t : Tab) G', OrdW ns → WT t → Upd a (m + 2000) G G' → tl__law_right_2 A (LE Q x) (vars a ns t) G') :
    ds__law_right A (LE Q x) (dstart N__law_right [.ref a]) G := by
  rw [tl__law_right]
  unfold N__law_right
  simp only [dRet, dRetN, dSeq, dAsg, dDrop, dIfS, dNext, dBreak, dCont, dPar, dSetL, dSetD, dFor, dVar, dC, dOp, dAndV, dOrV, dNotV, dAnd, dOr, dNot, dIf, dTest, dChain, dNil, dCons, dTup, dLst, dLstM, dStar, dNeg, dCB, dCall, dCallK, dMthT, dMth0, dLc, dYes, dISeq, dIStr, dIEnum, dIZip, dIRng1, dIRng2, dSl, dPart, dNoPart, dRaise, dDisp1, dNewD, dRevL, dRevT, dSortSet, dSortSetL, dIRng3, dGet2, dIKeys, dNewT, dSetT, dLstRg, dPar3, dLcM, dAugL, dSetdT, dDispT, dIItemsT, dIValsT, rdDInP, dFld, dSetF, dMake, dIKeysT, rdIsC, dCntC, dTupC, dSlC, dRevC, dISeqX, dMeth, dMeth0, dSetM, dNewM, lnX_t, lnX_l, srX_t, gdName, gdTup, gdCons, gdNil, dstart, dwipe, dAug, rdInt, rdSub, rdLt, rdLe, rdGt, rdGe, rdFdiv, rdMod, rdPow, at0, at1, at2, i30, i31, i32, set0, set1, set2, MO.lst.injEq, gup_same, gup_gup, ad_ii, ad_ss, ad_tt, ad_ll, mu_ii, mu_li, mu_ti, ix_t, ix_l, ix_s, ix_r, ix_w, ln_t, ln_l, ln_s, ln_w, ln_r, sr_t, sr_l, sr_s, sr_r, sl_t, sl_l, sl_s, sl_r, sl_w, tu_t, tu_l, tu_r, li_t, li_l, li_r, lm_t, lm_l, mx2, mn2, ab1, in1, is2, rdIsB, rdNotB, rdIsN, rdNotN, TD.isNon, List.map_cons, List.map_nil, List.length_cons, List.length_nil, List.replicate_succ, List.replicate_zero, List.cons_append, List.nil_append, List.append_nil, Nat.zero_add, Nat.reduceAdd, Nat.reduceSub, Nat.sub_self, Nat.add_sub_cancel, List.getElem?_cons_zero, List.getElem?_cons_succ, List.getElem?_nil, List.set_cons_zero, List.set_cons_succ, List.set_nil, Option.some.injEq, D.int.injEq, D.bl.injEq, D.str.injEq, D.ref.injEq, D.ty.injEq, D.tup.injEq, D.lst.injEq, List.cons.injEq, and_true, true_and, ex_two, ex_two', exists_eq_left', exists_eq_left, exists_and_left, exists_and_right, exists_const, exists_eq_right, exists_eq_right', Bool.not_true, Bool.not_false, if_true, if_false, Bool.false_eq_true, reduceCtorEq, false_and, and_false, decide_true, decide_false]
  refine roll_of d (by omega) (by omega) (by omega) fun r G1 hr u1 => ?_
  simp only [dRet, dRetN, dSeq, dAsg, dDrop, dIfS, dNext, dBreak, dCont, dPar, dSetL, dSetD, dFor, dVar, dC, dOp, dAndV, dOrV, dNotV, dAnd, dOr, dNot, dIf, dTest, dChain, dNil, dCons, dTup, dLst, dLstM, dStar, dNeg, dCB, dCall, dCallK, dMthT, dMth0, dLc, dYes, dISeq, dIStr, dIEnum, dIZip, dIRng1, dIRng2, dSl, dPart, dNoPart, dRaise, dDisp1, dNewD, dRevL, dRevT, dSortSet, dSortSetL, dIRng3, dGet2, dIKeys, dNewT, dSetT, dLstRg, dPar3, dLcM, dAugL, dSetdT, dDispT, dIItemsT, dIValsT, rdDInP, dFld, dSetF, dMake, dIKeysT, rdIsC, dCntC, dTupC, dSlC, dRevC, dISeqX, dMeth, dMeth0, dSetM, dNewM, lnX_t, lnX_l, srX_t, gdName, gdTup, gdCons, gdNil, dstart, dwipe, dAug, rdInt, rdSub, rdLt, rdLe, rdGt, rdGe, rdFdiv, rdMod, rdPow, at0, at1, at2, i30, i31, i32, set0, set1, set2, MO.lst.injEq, gup_same, gup_gup, ad_ii, ad_ss, ad_tt, ad_ll, mu_ii, mu_li, mu_ti, ix_t, ix_l, ix_s, ix_r, ix_w, ln_t, ln_l, ln_s, ln_w, ln_r, sr_t, sr_l, sr_s, sr_r, sl_t, sl_l, sl_s, sl_r, sl_w, tu_t, tu_l, tu_r, li_t, li_l, li_r, lm_t, lm_l, mx2, mn2, ab1, in1, is2, rdIsB, rdNotB, rdIsN, rdNotN, TD.isNon, List.map_cons, List.map_nil, List.length_cons, List.length_nil, List.replicate_succ, List.replicate_zero, List.cons_append, List.nil_append, List.append_nil, Nat.zero_add, Nat.reduceAdd, Nat.reduceSub, Nat.sub_self, Nat.add_sub_cancel, List.getElem?_cons_zero, List.getElem?_cons_succ, List.getElem?_nil, List.set_cons_zero, List.set_cons_succ, List.set_nil, Option.some.injEq, D.int.injEq, D.bl.injEq, D.str.injEq, D.ref.injEq, D.ty.injEq, D.tup.injEq, D.lst.injEq, List.cons.injEq, and_true, true_and, ex_two, ex_two', exists_eq_left', exists_eq_left, exists_and_left, exists_and_right, exists_const, exists_eq_right, exists_eq_right', Bool.not_true, Bool.not_false, if_true, if_false, Bool.false_eq_true, reduceCtorEq, false_and, and_false, decide_true, decide_false]
  refine ⟨by omega, sz _ (by omega), ?_⟩
  refine dComp_inv (fun i acc G' => ∃ ns : List Int, acc = ns.map D.int ∧ ns.length = i ∧ (∀ y ∈ ns, 0 ≤ y ∧ y ≤ 4) ∧ Upd a (m + 1 + i) G G') 0 ⟨[], rfl, rfl, fun y hy => by simp at hy, u1⟩ (fun _ _ _ _ _ _ => trivial) (fun i dd acc G3 hi hI K1 hK => ?_) (fun acc G3 hI => ?_)
  · obtain ⟨ns, rfl, hl, hb, u⟩ := hI
    obtain ⟨hi1, rfl⟩ := rngD_get hi
    rw [Nat.zero_add] at *
    try simp only [dRet, dRetN, dSeq, dAsg, dDrop, dIfS, dNext, dBreak, dCont, dPar, dSetL, dSetD, dFor, dVar, dC, dOp, dAndV, dOrV, dNotV, dAnd, dOr, dNot, dIf, dTest, dChain, dNil, dCons, dTup, dLst, dLstM, dStar, dNeg, dCB, dCall, dCallK, dMthT, dMth0, dLc, dYes, dISeq, dIStr, dIEnum, dIZip, dIRng1, dIRng2, dSl, dPart, dNoPart, dRaise, dDisp1, dNewD, dRevL, dRevT, dSortSet, dSortSetL, dIRng3, dGet2, dIKeys, dNewT, dSetT, dLstRg, dPar3, dLcM, dAugL, dSetdT, dDispT, dIItemsT, dIValsT, rdDInP, dFld, dSetF, dMake, dIKeysT, rdIsC, dCntC, dTupC, dSlC, dRevC, dISeqX, dMeth, dMeth0, dSetM, dNewM, lnX_t, lnX_l, srX_t, gdName, gdTup, gdCons, gdNil, dstart, dwipe, dAug, rdInt, rdSub, rdLt, rdLe, rdGt, rdGe, rdFdiv, rdMod, rdPow, at0, at1, at2, i30, i31, i32, set0, set1, set2, MO.lst.injEq, gup_same, gup_gup, ad_ii, ad_ss, ad_tt, ad_ll, mu_ii, mu_li, mu_ti, ix_t, ix_l, ix_s, ix_r, ix_w, ln_t, ln_l, ln_s, ln_w, ln_r, sr_t, sr_l, sr_s, sr_r, sl_t, sl_l, sl_s, sl_r, sl_w, tu_t, tu_l, tu_r, li_t, li_l, li_r, lm_t, lm_l, mx2, mn2, ab1, in1, is2, rdIsB, rdNotB, rdIsN, rdNotN, TD.isNon, List.map_cons, List.map_nil, List.length_cons, List.length_nil, List.replicate_succ, List.replicate_zero, List.cons_append, List.nil_append, List.append_nil, Nat.zero_add, Nat.reduceAdd, Nat.reduceSub, Nat.sub_self, Nat.add_sub_cancel, List.getElem?_cons_zero, List.getElem?_cons_succ, List.getElem?_nil, List.set_cons_zero, List.set_cons_succ, List.set_nil, Option.some.injEq, D.int.injEq, D.bl.injEq, D.str.injEq, D.ref.injEq, D.ty.injEq, D.tup.injEq, D.lst.injEq, List.cons.injEq, and_true, true_and, ex_two, ex_two', exists_eq_left', exists_eq_left, exists_and_left, exists_and_right, exists_const, exists_eq_right, exists_eq_right', Bool.not_true, Bool.not_false, if_true, if_false, Bool.false_eq_true, reduceCtorEq, false_and, and_false, decide_true, decide_false]
    refine roll_of u.2 (by omega) (by omega) (by omega) fun r1 G5 hr1 u5 => ?_
    try simp only [dRet, dRetN, dSeq, dAsg, dDrop, dIfS, dNext, dBreak, dCont, dPar, dSetL, dSetD, dFor, dVar, dC, dOp, dAndV, dOrV, dNotV, dAnd, dOr, dNot, dIf, dTest, dChain, dNil, dCons, dTup, dLst, dLstM, dStar, dNeg, dCB, dCall, dCallK, dMthT, dMth0, dLc, dYes, dISeq, dIStr, dIEnum, dIZip, dIRng1, dIRng2, dSl, dPart, dNoPart, dRaise, dDisp1, dNewD, dRevL, dRevT, dSortSet, dSortSetL, dIRng3, dGet2, dIKeys, dNewT, dSetT, dLstRg, dPar3, dLcM, dAugL, dSetdT, dDispT, dIItemsT, dIValsT, rdDInP, dFld, dSetF, dMake, dIKeysT, rdIsC, dCntC, dTupC, dSlC, dRevC, dISeqX, dMeth, dMeth0, dSetM, dNewM, lnX_t, lnX_l, srX_t, gdName, gdTup, gdCons, gdNil, dstart, dwipe, dAug, rdInt, rdSub, rdLt, rdLe, rdGt, rdGe, rdFdiv, rdMod, rdPow, at0, at1, at2, i30, i31, i32, set0, set1, set2, MO.lst.injEq, gup_same, gup_gup, ad_ii, ad_ss, ad_tt, ad_ll, mu_ii, mu_li, mu_ti, ix_t, ix_l, ix_s, ix_r, ix_w, ln_t, ln_l, ln_s, ln_w, ln_r, sr_t, sr_l, sr_s, sr_r, sl_t, sl_l, sl_s, sl_r, sl_w, tu_t, tu_l, tu_r, li_t, li_l, li_r, lm_t, lm_l, mx2, mn2, ab1, in1, is2, rdIsB, rdNotB, rdIsN, rdNotN, TD.isNon, List.map_cons, List.map_nil, List.length_cons, List.length_nil, List.replicate_succ, List.replicate_zero, List.cons_append, List.nil_append, List.append_nil, Nat.zero_add, Nat.reduceAdd, Nat.reduceSub, Nat.sub_self, Nat.add_sub_cancel, List.getElem?_cons_zero, List.getElem?_cons_succ, List.getElem?_nil, List.set_cons_zero, List.set_cons_succ, List.set_nil, Option.some.injEq, D.int.injEq, D.bl.injEq, D.str.injEq, D.ref.injEq, D.ty.injEq, D.tup.injEq, D.lst.injEq, List.cons.injEq, and_true, true_and, ex_two, ex_two', exists_eq_left', exists_eq_left, exists_and_left, exists_and_right, exists_const, exists_eq_right, exists_eq_right', Bool.not_true, Bool.not_false, if_true, if_false, Bool.false_eq_true, reduceCtorEq, false_and, and_false, decide_true, decide_false]
    refine hK _ _ ⟨ns ++ [(r1 : Int)], intsL_snoc ns r1, by rw [List.length_append, hl] <;> rfl, fun y hy => ?_, (u.trans u5).mono (by omega)⟩
    rcases List.mem_append.mp hy with hy | hy
    · exact hb y hy
    · rw [List.mem_singleton.mp hy]; omega
  · obtain ⟨ns, rfl, hl, hb, u⟩ := hI
    rw [rngD_len, Nat.zero_add] at hl u
    have ow : OrdW ns := ⟨by omega, hb⟩
    try simp only [dRet, dRetN, dSeq, dAsg, dDrop, dIfS, dNext, dBreak, dCont, dPar, dSetL, dSetD, dFor, dVar, dC, dOp, dAndV, dOrV, dNotV, dAnd, dOr, dNot, dIf, dTest, dChain, dNil, dCons, dTup, dLst, dLstM, dStar, dNeg, dCB, dCall, dCallK, dMthT, dMth0, dLc, dYes, dISeq, dIStr, dIEnum, dIZip, dIRng1, dIRng2, dSl, dPart, dNoPart, dRaise, dDisp1, dNewD, dRevL, dRevT, dSortSet, dSortSetL, dIRng3, dGet2, dIKeys, dNewT, dSetT, dLstRg, dPar3, dLcM, dAugL, dSetdT, dDispT, dIItemsT, dIValsT, rdDInP, dFld, dSetF, dMake, dIKeysT, rdIsC, dCntC, dTupC, dSlC, dRevC, dISeqX, dMeth, dMeth0, dSetM, dNewM, lnX_t, lnX_l, srX_t, gdName, gdTup, gdCons, gdNil, dstart, dwipe, dAug, rdInt, rdSub, rdLt, rdLe, rdGt, rdGe, rdFdiv, rdMod, rdPow, at0, at1, at2, i30, i31, i32, set0, set1, set2, MO.lst.injEq, gup_same, gup_gup, ad_ii, ad_ss, ad_tt, ad_ll, mu_ii, mu_li, mu_ti, ix_t, ix_l, ix_s, ix_r, ix_w, ln_t, ln_l, ln_s, ln_w, ln_r, sr_t, sr_l, sr_s, sr_r, sl_t, sl_l, sl_s, sl_r, sl_w, tu_t, tu_l, tu_r, li_t, li_l, li_r, lm_t, lm_l, mx2, mn2, ab1, in1, is2, rdIsB, rdNotB, rdIsN, rdNotN, TD.isNon, List.map_cons, List.map_nil, List.length_cons, List.length_nil, List.replicate_succ, List.replicate_zero, List.cons_append, List.nil_append, List.append_nil, Nat.zero_add, Nat.reduceAdd, Nat.reduceSub, Nat.sub_self, Nat.add_sub_cancel, List.getElem?_cons_zero, List.getElem?_cons_succ, List.getElem?_nil, List.set_cons_zero, List.set_cons_succ, List.set_nil, Option.some.injEq, D.int.injEq, D.bl.injEq, D.str.injEq, D.ref.injEq, D.ty.injEq, D.tup.injEq, D.lst.injEq, List.cons.injEq, and_true, true_and, ex_two, ex_two', exists_eq_left', exists_eq_left, exists_and_left, exists_and_right, exists_const, exists_eq_right, exists_eq_right', Bool.not_true, Bool.not_false, if_true, if_false, Bool.false_eq_true, reduceCtorEq, false_and, and_false, decide_true, decide_false]
    refine ⟨_, u.2, by omega, fun t G4 w u4 => ?_⟩
    have ee : D.tup (ns.map D.int) = intsD ns := rfl
    rw [ee]
    have e1 : pickK 0 1 [0] [] [intsD ns] = [intsD ns] := pick1 _
    simp only [dRet, dRetN, dSeq, dAsg, dDrop, dIfS, dNext, dBreak, dCont, dPar, dSetL, dSetD, dFor, dVar, dC, dOp, dAndV, dOrV, dNotV, dAnd, dOr, dNot, dIf, dTest, dChain, dNil, dCons, dTup, dLst, dLstM, dStar, dNeg, dCB, dCall, dCallK, dMthT, dMth0, dLc, dYes, dISeq, dIStr, dIEnum, dIZip, dIRng1, dIRng2, dSl, dPart, dNoPart, dRaise, dDisp1, dNewD, dRevL, dRevT, dSortSet, dSortSetL, dIRng3, dGet2, dIKeys, dNewT, dSetT, dLstRg, dPar3, dLcM, dAugL, dSetdT, dDispT, dIItemsT, dIValsT, rdDInP, dFld, dSetF, dMake, dIKeysT, rdIsC, dCntC, dTupC, dSlC, dRevC, dISeqX, dMeth, dMeth0, dSetM, dNewM, lnX_t, lnX_l, srX_t, gdName, gdTup, gdCons, gdNil, dstart, dwipe, dAug, rdInt, rdSub, rdLt, rdLe, rdGt, rdGe, rdFdiv, rdMod, rdPow, at0, at1, at2, i30, i31, i32, set0, set1, set2, MO.lst.injEq, gup_same, gup_gup, ad_ii, ad_ss, ad_tt, ad_ll, mu_ii, mu_li, mu_ti, ix_t, ix_l, ix_s, ix_r, ix_w, ln_t, ln_l, ln_s, ln_w, ln_r, sr_t, sr_l, sr_s, sr_r, sl_t, sl_l, sl_s, sl_r, sl_w, tu_t, tu_l, tu_r, li_t, li_l, li_r, lm_t, lm_l, mx2, mn2, ab1, in1, is2, rdIsB, rdNotB, rdIsN, rdNotN, TD.isNon, List.map_cons, List.map_nil, List.length_cons, List.length_nil, List.replicate_succ, List.replicate_zero, List.cons_append, List.nil_append, List.append_nil, Nat.zero_add, Nat.reduceAdd, Nat.reduceSub, Nat.sub_self, Nat.add_sub_cancel, List.getElem?_cons_zero, List.getElem?_cons_succ, List.getElem?_nil, List.set_cons_zero, List.set_cons_succ, List.set_nil, Option.some.injEq, D.int.injEq, D.bl.injEq, D.str.injEq, D.ref.injEq, D.ty.injEq, D.tup.injEq, D.lst.injEq, List.cons.injEq, and_true, true_and, ex_two, ex_two', exists_eq_left', exists_eq_left, exists_and_left, exists_and_right, exists_const, exists_eq_right, exists_eq_right', Bool.not_true, Bool.not_false, if_true, if_false, Bool.false_eq_true, reduceCtorEq, false_and, and_false, decide_true, decide_false, e1]
    refine wo_of ow ?_
    try simp only [dRet, dRetN, dSeq, dAsg, dDrop, dIfS, dNext, dBreak, dCont, dPar, dSetL, dSetD, dFor, dVar, dC, dOp, dAndV, dOrV, dNotV, dAnd, dOr, dNot, dIf, dTest, dChain, dNil, dCons, dTup, dLst, dLstM, dStar, dNeg, dCB, dCall, dCallK, dMthT, dMth0, dLc, dYes, dISeq, dIStr, dIEnum, dIZip, dIRng1, dIRng2, dSl, dPart, dNoPart, dRaise, dDisp1, dNewD, dRevL, dRevT, dSortSet, dSortSetL, dIRng3, dGet2, dIKeys, dNewT, dSetT, dLstRg, dPar3, dLcM, dAugL, dSetdT, dDispT, dIItemsT, dIValsT, rdDInP, dFld, dSetF, dMake, dIKeysT, rdIsC, dCntC, dTupC, dSlC, dRevC, dISeqX, dMeth, dMeth0, dSetM, dNewM, lnX_t, lnX_l, srX_t, gdName, gdTup, gdCons, gdNil, dstart, dwipe, dAug, rdInt, rdSub, rdLt, rdLe, rdGt, rdGe, rdFdiv, rdMod, rdPow, at0, at1, at2, i30, i31, i32, set0, set1, set2, MO.lst.injEq, gup_same, gup_gup, ad_ii, ad_ss, ad_tt, ad_ll, mu_ii, mu_li, mu_ti, ix_t, ix_l, ix_s, ix_r, ix_w, ln_t, ln_l, ln_s, ln_w, ln_r, sr_t, sr_l, sr_s, sr_r, sl_t, sl_l, sl_s, sl_r, sl_w, tu_t, tu_l, tu_r, li_t, li_l, li_r, lm_t, lm_l, mx2, mn2, ab1, in1, is2, rdIsB, rdNotB, rdIsN, rdNotN, TD.isNon, List.map_cons, List.map_nil, List.length_cons, List.length_nil, List.replicate_succ, List.replicate_zero, List.cons_append, List.nil_append, List.append_nil, Nat.zero_add, Nat.reduceAdd, Nat.reduceSub, Nat.sub_self, Nat.add_sub_cancel, List.getElem?_cons_zero, List.getElem?_cons_succ, List.getElem?_nil, List.set_cons_zero, List.set_cons_succ, List.set_nil, Option.some.injEq, D.int.injEq, D.bl.injEq, D.str.injEq, D.ref.injEq, D.ty.injEq, D.tup.injEq, D.lst.injEq, List.cons.injEq, and_true, true_and, ex_two, ex_two', exists_eq_left', exists_eq_left, exists_and_left, exists_and_right, exists_const, exists_eq_right, exists_eq_right', Bool.not_true, Bool.not_false, if_true, if_false, Bool.false_eq_true, reduceCtorEq, false_and, and_false, decide_true, decide_false]
    refine wt_of w ?_
    exact rest ns t G4 ow w ((u.trans u4).mono (by omega))
end K00
namespace K00
open PySem L2 TD
theorem ro_of {A : Ad} {ns : List Int} {G : GH} {Q : DK} {x : XD} (w : OrdW ns) (q : Q (intsD ns) G) : sp_read_order A [.str (ordT ns)] G Q x := by
  have ho := ord_ok w.len w.bnd
  refine ⟨sz5 (by have := ho.1; omega), fun _ _ => by rw [ord_back w.bnd]; exact q, fun _ z => absurd ho z, fun z => absurd (show (ordT ns).length ≤ 1000 by have := ho.1; omega) z⟩
theorem rt_of {A : Ad} {t : Tab} {G : GH} {Q : DK} {x : XD} (w : WT t) (q : ∀ G', Ext G G' → Q (tabD t) G') : sp_read_table A [.str (tabT t)] G Q x := by
  have hl := len_tab w
  refine ⟨by omega, fun z => absurd (show (tabT t).length ≤ 1000 by omega) z, fun _ G' he => ?_⟩
  rw [tbl_back w]
  exact q G' he
theorem deqs_intsS : ∀ a : List Int, deqs (a.map D.int) (a.map D.int) = true
  | [] => by simp [deqs]
  | x :: xs => by rw [List.map_cons, deqs, deqs_intsS xs, deq_ii, beq_self_eq_true] <;> rfl
theorem deq_intsS (a : List Int) : deq (intsD a) (intsD a) = true := by
  unfold intsD
  rw [deq]
  exact deqs_intsS a
theorem deqs_rowsS : ∀ t : Tab, deqs (t.map intsD) (t.map intsD) = true
  | [] => by simp [deqs]
  | r :: rs => by rw [List.map_cons, deqs, deqs_rowsS rs, deq_intsS] <;> rfl
theorem deq_tabS (t : Tab) : deq (tabD t) (tabD t) = true := by
  unfold tabD
  rw [deq]
  exact deqs_rowsS t
theorem ne_self {z : D} {G : GH} {Q : DK} (hp : Pur z) (hd : deq z z = true) (q : Q (.bl false) G) : rdNe z z G Q := by
  refine ⟨60, by omega, hp, hp, ?_⟩
  rw [hd]
  exact q
theorem neS_self {s : Str} {G : GH} {Q : DK} (q : Q (.bl false) G) : rdNeS (.str s) (.str s) G Q := by
  refine ⟨s, s, rfl, rfl, ?_⟩
  rw [decide_eq_true rfl]
  exact q
theorem row_comp (r : List Int) : ([] ++ (r.map D.int).map fun d => match d with | .int i => D.str (stI i) | _ => .non) = (r.map stI).map D.str := by
  rw [List.nil_append, List.map_map, List.map_map] <;> rfl
theorem stB {A : Ad} {a : Addr} {G : GH} {Q : DK} {x : XD} {ns : List Int} {t : Tab} (ow : OrdW ns) (w : WT t)
    (rest : ∀ G', Ext G G' → tl__law_right_4 A (LE Q x) (vars a ns t) G') : tl__law_right_2 A (LE Q x) (vars a ns t) G := by
  unfold tl__law_right_2 vars
  simp only [dRet, dRetN, dSeq, dAsg, dDrop, dIfS, dNext, dBreak, dCont, dPar, dSetL, dSetD, dFor, dVar, dC, dOp, dAndV, dOrV, dNotV, dAnd, dOr, dNot, dIf, dTest, dChain, dNil, dCons, dTup, dLst, dLstM, dStar, dNeg, dCB, dCall, dCallK, dMthT, dMth0, dLc, dYes, dISeq, dIStr, dIEnum, dIZip, dIRng1, dIRng2, dSl, dPart, dNoPart, dRaise, dDisp1, dNewD, dRevL, dRevT, dSortSet, dSortSetL, dIRng3, dGet2, dIKeys, dNewT, dSetT, dLstRg, dPar3, dLcM, dAugL, dSetdT, dDispT, dIItemsT, dIValsT, rdDInP, dFld, dSetF, dMake, dIKeysT, rdIsC, dCntC, dTupC, dSlC, dRevC, dISeqX, dMeth, dMeth0, dSetM, dNewM, lnX_t, lnX_l, srX_t, gdName, gdTup, gdCons, gdNil, dstart, dwipe, dAug, rdInt, rdSub, rdLt, rdLe, rdGt, rdGe, rdFdiv, rdMod, rdPow, at0, at1, at2, i30, i31, i32, set0, set1, set2, MO.lst.injEq, gup_same, gup_gup, ad_ii, ad_ss, ad_tt, ad_ll, mu_ii, mu_li, mu_ti, ix_t, ix_l, ix_s, ix_r, ix_w, ln_t, ln_l, ln_s, ln_w, ln_r, sr_t, sr_l, sr_s, sr_r, sl_t, sl_l, sl_s, sl_r, sl_w, tu_t, tu_l, tu_r, li_t, li_l, li_r, lm_t, lm_l, mx2, mn2, ab1, in1, is2, rdIsB, rdNotB, rdIsN, rdNotN, TD.isNon, List.map_cons, List.map_nil, List.length_cons, List.length_nil, List.replicate_succ, List.replicate_zero, List.cons_append, List.nil_append, List.append_nil, Nat.zero_add, Nat.reduceAdd, Nat.reduceSub, Nat.sub_self, Nat.add_sub_cancel, List.getElem?_cons_zero, List.getElem?_cons_succ, List.getElem?_nil, List.set_cons_zero, List.set_cons_succ, List.set_nil, Option.some.injEq, D.int.injEq, D.bl.injEq, D.str.injEq, D.ref.injEq, D.ty.injEq, D.tup.injEq, D.lst.injEq, List.cons.injEq, and_true, true_and, ex_two, ex_two', exists_eq_left', exists_eq_left, exists_and_left, exists_and_right, exists_const, exists_eq_right, exists_eq_right', Bool.not_true, Bool.not_false, if_true, if_false, Bool.false_eq_true, reduceCtorEq, false_and, and_false, decide_true, decide_false, tyM, rdJoin, intsD]
  refine dComp_map (fun d => match d with | .int i => D.str (stI i) | _ => .non) trivial (fun d hd K1 k => ?_) ?_
  · obtain ⟨i, hi, rfl⟩ := List.mem_map.mp hd
    have hb := ow.bnd i hi
    simp only [dRet, dRetN, dSeq, dAsg, dDrop, dIfS, dNext, dBreak, dCont, dPar, dSetL, dSetD, dFor, dVar, dC, dOp, dAndV, dOrV, dNotV, dAnd, dOr, dNot, dIf, dTest, dChain, dNil, dCons, dTup, dLst, dLstM, dStar, dNeg, dCB, dCall, dCallK, dMthT, dMth0, dLc, dYes, dISeq, dIStr, dIEnum, dIZip, dIRng1, dIRng2, dSl, dPart, dNoPart, dRaise, dDisp1, dNewD, dRevL, dRevT, dSortSet, dSortSetL, dIRng3, dGet2, dIKeys, dNewT, dSetT, dLstRg, dPar3, dLcM, dAugL, dSetdT, dDispT, dIItemsT, dIValsT, rdDInP, dFld, dSetF, dMake, dIKeysT, rdIsC, dCntC, dTupC, dSlC, dRevC, dISeqX, dMeth, dMeth0, dSetM, dNewM, lnX_t, lnX_l, srX_t, gdName, gdTup, gdCons, gdNil, dstart, dwipe, dAug, rdInt, rdSub, rdLt, rdLe, rdGt, rdGe, rdFdiv, rdMod, rdPow, at0, at1, at2, i30, i31, i32, set0, set1, set2, MO.lst.injEq, gup_same, gup_gup, ad_ii, ad_ss, ad_tt, ad_ll, mu_ii, mu_li, mu_ti, ix_t, ix_l, ix_s, ix_r, ix_w, ln_t, ln_l, ln_s, ln_w, ln_r, sr_t, sr_l, sr_s, sr_r, sl_t, sl_l, sl_s, sl_r, sl_w, tu_t, tu_l, tu_r, li_t, li_l, li_r, lm_t, lm_l, mx2, mn2, ab1, in1, is2, rdIsB, rdNotB, rdIsN, rdNotN, TD.isNon, List.map_cons, List.map_nil, List.length_cons, List.length_nil, List.replicate_succ, List.replicate_zero, List.cons_append, List.nil_append, List.append_nil, Nat.zero_add, Nat.reduceAdd, Nat.reduceSub, Nat.sub_self, Nat.add_sub_cancel, List.getElem?_cons_zero, List.getElem?_cons_succ, List.getElem?_nil, List.set_cons_zero, List.set_cons_succ, List.set_nil, Option.some.injEq, D.int.injEq, D.bl.injEq, D.str.injEq, D.ref.injEq, D.ty.injEq, D.tup.injEq, D.lst.injEq, List.cons.injEq, and_true, true_and, ex_two, ex_two', exists_eq_left', exists_eq_left, exists_and_left, exists_and_right, exists_const, exists_eq_right, exists_eq_right', Bool.not_true, Bool.not_false, if_true, if_false, Bool.false_eq_true, reduceCtorEq, false_and, and_false, decide_true, decide_false, rdStrI]
    exact ⟨log_small (by omega) (by omega), k⟩
  · rw [row_comp]
    refine ⟨_, rfl, ?_, ?_⟩
    · have h3 : tot (ns.map stI) ≤ 4 * ns.length := tot_sts fun y hy => by have := ow.bnd y hy; omega
      have e0 : ("" : Str).length = 0 := by decide +kernel
      have hl := ow.len
      rw [e0]
      unfold tot at h3
      omega
    · refine neS_self ?_
      simp only [dRet, dRetN, dSeq, dAsg, dDrop, dIfS, dNext, dBreak, dCont, dPar, dSetL, dSetD, dFor, dVar, dC, dOp, dAndV, dOrV, dNotV, dAnd, dOr, dNot, dIf, dTest, dChain, dNil, dCons, dTup, dLst, dLstM, dStar, dNeg, dCB, dCall, dCallK, dMthT, dMth0, dLc, dYes, dISeq, dIStr, dIEnum, dIZip, dIRng1, dIRng2, dSl, dPart, dNoPart, dRaise, dDisp1, dNewD, dRevL, dRevT, dSortSet, dSortSetL, dIRng3, dGet2, dIKeys, dNewT, dSetT, dLstRg, dPar3, dLcM, dAugL, dSetdT, dDispT, dIItemsT, dIValsT, rdDInP, dFld, dSetF, dMake, dIKeysT, rdIsC, dCntC, dTupC, dSlC, dRevC, dISeqX, dMeth, dMeth0, dSetM, dNewM, lnX_t, lnX_l, srX_t, gdName, gdTup, gdCons, gdNil, dstart, dwipe, dAug, rdInt, rdSub, rdLt, rdLe, rdGt, rdGe, rdFdiv, rdMod, rdPow, at0, at1, at2, i30, i31, i32, set0, set1, set2, MO.lst.injEq, gup_same, gup_gup, ad_ii, ad_ss, ad_tt, ad_ll, mu_ii, mu_li, mu_ti, ix_t, ix_l, ix_s, ix_r, ix_w, ln_t, ln_l, ln_s, ln_w, ln_r, sr_t, sr_l, sr_s, sr_r, sl_t, sl_l, sl_s, sl_r, sl_w, tu_t, tu_l, tu_r, li_t, li_l, li_r, lm_t, lm_l, mx2, mn2, ab1, in1, is2, rdIsB, rdNotB, rdIsN, rdNotN, TD.isNon, List.map_cons, List.map_nil, List.length_cons, List.length_nil, List.replicate_succ, List.replicate_zero, List.cons_append, List.nil_append, List.append_nil, Nat.zero_add, Nat.reduceAdd, Nat.reduceSub, Nat.sub_self, Nat.add_sub_cancel, List.getElem?_cons_zero, List.getElem?_cons_succ, List.getElem?_nil, List.set_cons_zero, List.set_cons_succ, List.set_nil, Option.some.injEq, D.int.injEq, D.bl.injEq, D.str.injEq, D.ref.injEq, D.ty.injEq, D.tup.injEq, D.lst.injEq, List.cons.injEq, and_true, true_and, ex_two, ex_two', exists_eq_left', exists_eq_left, exists_and_left, exists_and_right, exists_const, exists_eq_right, exists_eq_right', Bool.not_true, Bool.not_false, if_true, if_false, Bool.false_eq_true, reduceCtorEq, false_and, and_false, decide_true, decide_false, tyM, rdJoin, tabD]
      refine dComp_map (fun d => match d with | .tup r => D.str (Txt.join SP (r.map fun d => match d with | .int i => stI i | _ => Str.empty)) | _ => .non) trivial (fun d hd K1 k => ?_) ?_
      · obtain ⟨r, hr, rfl⟩ := List.mem_map.mp hd
        have hb := w.bnd r hr
        simp only [intsD, dRet, dRetN, dSeq, dAsg, dDrop, dIfS, dNext, dBreak, dCont, dPar, dSetL, dSetD, dFor, dVar, dC, dOp, dAndV, dOrV, dNotV, dAnd, dOr, dNot, dIf, dTest, dChain, dNil, dCons, dTup, dLst, dLstM, dStar, dNeg, dCB, dCall, dCallK, dMthT, dMth0, dLc, dYes, dISeq, dIStr, dIEnum, dIZip, dIRng1, dIRng2, dSl, dPart, dNoPart, dRaise, dDisp1, dNewD, dRevL, dRevT, dSortSet, dSortSetL, dIRng3, dGet2, dIKeys, dNewT, dSetT, dLstRg, dPar3, dLcM, dAugL, dSetdT, dDispT, dIItemsT, dIValsT, rdDInP, dFld, dSetF, dMake, dIKeysT, rdIsC, dCntC, dTupC, dSlC, dRevC, dISeqX, dMeth, dMeth0, dSetM, dNewM, lnX_t, lnX_l, srX_t, gdName, gdTup, gdCons, gdNil, dstart, dwipe, dAug, rdInt, rdSub, rdLt, rdLe, rdGt, rdGe, rdFdiv, rdMod, rdPow, at0, at1, at2, i30, i31, i32, set0, set1, set2, MO.lst.injEq, gup_same, gup_gup, ad_ii, ad_ss, ad_tt, ad_ll, mu_ii, mu_li, mu_ti, ix_t, ix_l, ix_s, ix_r, ix_w, ln_t, ln_l, ln_s, ln_w, ln_r, sr_t, sr_l, sr_s, sr_r, sl_t, sl_l, sl_s, sl_r, sl_w, tu_t, tu_l, tu_r, li_t, li_l, li_r, lm_t, lm_l, mx2, mn2, ab1, in1, is2, rdIsB, rdNotB, rdIsN, rdNotN, TD.isNon, List.map_cons, List.map_nil, List.length_cons, List.length_nil, List.replicate_succ, List.replicate_zero, List.cons_append, List.nil_append, List.append_nil, Nat.zero_add, Nat.reduceAdd, Nat.reduceSub, Nat.sub_self, Nat.add_sub_cancel, List.getElem?_cons_zero, List.getElem?_cons_succ, List.getElem?_nil, List.set_cons_zero, List.set_cons_succ, List.set_nil, Option.some.injEq, D.int.injEq, D.bl.injEq, D.str.injEq, D.ref.injEq, D.ty.injEq, D.tup.injEq, D.lst.injEq, List.cons.injEq, and_true, true_and, ex_two, ex_two', exists_eq_left', exists_eq_left, exists_and_left, exists_and_right, exists_const, exists_eq_right, exists_eq_right', Bool.not_true, Bool.not_false, if_true, if_false, Bool.false_eq_true, reduceCtorEq, false_and, and_false, decide_true, decide_false, tyM, rdJoin] at k ⊢
        have er : (r.map D.int).map (fun d => match d with | .int i => stI i | _ => Str.empty) = r.map stI := by rw [List.map_map] <;> rfl
        rw [er] at k
        refine dComp_map (fun d => match d with | .int i => D.str (stI i) | _ => .non) trivial (fun d hd K2 k2 => ?_) ?_
        · obtain ⟨i, hi, rfl⟩ := List.mem_map.mp hd
          have hb := hb i hi
          simp only [dRet, dRetN, dSeq, dAsg, dDrop, dIfS, dNext, dBreak, dCont, dPar, dSetL, dSetD, dFor, dVar, dC, dOp, dAndV, dOrV, dNotV, dAnd, dOr, dNot, dIf, dTest, dChain, dNil, dCons, dTup, dLst, dLstM, dStar, dNeg, dCB, dCall, dCallK, dMthT, dMth0, dLc, dYes, dISeq, dIStr, dIEnum, dIZip, dIRng1, dIRng2, dSl, dPart, dNoPart, dRaise, dDisp1, dNewD, dRevL, dRevT, dSortSet, dSortSetL, dIRng3, dGet2, dIKeys, dNewT, dSetT, dLstRg, dPar3, dLcM, dAugL, dSetdT, dDispT, dIItemsT, dIValsT, rdDInP, dFld, dSetF, dMake, dIKeysT, rdIsC, dCntC, dTupC, dSlC, dRevC, dISeqX, dMeth, dMeth0, dSetM, dNewM, lnX_t, lnX_l, srX_t, gdName, gdTup, gdCons, gdNil, dstart, dwipe, dAug, rdInt, rdSub, rdLt, rdLe, rdGt, rdGe, rdFdiv, rdMod, rdPow, at0, at1, at2, i30, i31, i32, set0, set1, set2, MO.lst.injEq, gup_same, gup_gup, ad_ii, ad_ss, ad_tt, ad_ll, mu_ii, mu_li, mu_ti, ix_t, ix_l, ix_s, ix_r, ix_w, ln_t, ln_l, ln_s, ln_w, ln_r, sr_t, sr_l, sr_s, sr_r, sl_t, sl_l, sl_s, sl_r, sl_w, tu_t, tu_l, tu_r, li_t, li_l, li_r, lm_t, lm_l, mx2, mn2, ab1, in1, is2, rdIsB, rdNotB, rdIsN, rdNotN, TD.isNon, List.map_cons, List.map_nil, List.length_cons, List.length_nil, List.replicate_succ, List.replicate_zero, List.cons_append, List.nil_append, List.append_nil, Nat.zero_add, Nat.reduceAdd, Nat.reduceSub, Nat.sub_self, Nat.add_sub_cancel, List.getElem?_cons_zero, List.getElem?_cons_succ, List.getElem?_nil, List.set_cons_zero, List.set_cons_succ, List.set_nil, Option.some.injEq, D.int.injEq, D.bl.injEq, D.str.injEq, D.ref.injEq, D.ty.injEq, D.tup.injEq, D.lst.injEq, List.cons.injEq, and_true, true_and, ex_two, ex_two', exists_eq_left', exists_eq_left, exists_and_left, exists_and_right, exists_const, exists_eq_right, exists_eq_right', Bool.not_true, Bool.not_false, if_true, if_false, Bool.false_eq_true, reduceCtorEq, false_and, and_false, decide_true, decide_false, rdStrI]
          exact ⟨log_small (by omega) (by omega), k2⟩
        · refine ⟨r.map stI, ?_, ?_, k⟩
          · rw [List.nil_append, List.map_map, List.map_map] <;> rfl
          · have h3 : tot (r.map stI) ≤ 4 * r.length := tot_sts hb
            have h4 := wt_row w hr
            have e0 : SP.length = 1 := sep_SP.one
            rw [e0, List.length_map]
            unfold tot at h3
            omega
      · refine ⟨t.map rowT, ?_, ?_, ?_⟩
        · rw [List.nil_append, List.map_map, List.map_map]
          refine congrArg D.lst (List.map_congr_left fun r hr => ?_)
          show D.str (Txt.join SP ((r.map D.int).map fun d => match d with | .int i => stI i | _ => Str.empty)) = D.str (rowT r)
          have er : (r.map D.int).map (fun d => match d with | .int i => stI i | _ => Str.empty) = r.map stI := by rw [List.map_map] <;> rfl
          rw [er] <;> rfl
        · have h3 := tot_rows (t := t) (n := t.length) (fun j r hj => Nat.le_of_eq (w.row j r hj)) w.bnd
          have h4 := tri_mono w.n7
          have h5 : tri 7 = 28 := by decide
          have h6 := w.n7
          have e0 : NL.length = 1 := sep_NL.one
          rw [e0, List.length_map]
          unfold tot at h3
          omega
        · refine neS_self ⟨_, rfl, ?_⟩
          rw [if_neg Bool.false_ne_true]
          have ei : D.tup (ns.map D.int) = intsD ns := rfl
          have et : D.tup (t.map intsD) = tabD t := rfl
          have e1 : pickK 0 1 [0] [] [D.str (tabT t)] = [D.str (tabT t)] := pick1 _
          have e2 : pickK 0 1 [0] [] [D.str (ordT ns)] = [D.str (ordT ns)] := pick1 _
          have e3 : pickK 0 1 [0] [] [tabD t] = [tabD t] := pick1 _
          unfold tl__law_right_3
          rw [ei]
          have et2 : D.tup (List.map (fun ns => D.tup (ns.map D.int)) t) = tabD t := rfl
          simp only [dRet, dRetN, dSeq, dAsg, dDrop, dIfS, dNext, dBreak, dCont, dPar, dSetL, dSetD, dFor, dVar, dC, dOp, dAndV, dOrV, dNotV, dAnd, dOr, dNot, dIf, dTest, dChain, dNil, dCons, dTup, dLst, dLstM, dStar, dNeg, dCB, dCall, dCallK, dMthT, dMth0, dLc, dYes, dISeq, dIStr, dIEnum, dIZip, dIRng1, dIRng2, dSl, dPart, dNoPart, dRaise, dDisp1, dNewD, dRevL, dRevT, dSortSet, dSortSetL, dIRng3, dGet2, dIKeys, dNewT, dSetT, dLstRg, dPar3, dLcM, dAugL, dSetdT, dDispT, dIItemsT, dIValsT, rdDInP, dFld, dSetF, dMake, dIKeysT, rdIsC, dCntC, dTupC, dSlC, dRevC, dISeqX, dMeth, dMeth0, dSetM, dNewM, lnX_t, lnX_l, srX_t, gdName, gdTup, gdCons, gdNil, dstart, dwipe, dAug, rdInt, rdSub, rdLt, rdLe, rdGt, rdGe, rdFdiv, rdMod, rdPow, at0, at1, at2, i30, i31, i32, set0, set1, set2, MO.lst.injEq, gup_same, gup_gup, ad_ii, ad_ss, ad_tt, ad_ll, mu_ii, mu_li, mu_ti, ix_t, ix_l, ix_s, ix_r, ix_w, ln_t, ln_l, ln_s, ln_w, ln_r, sr_t, sr_l, sr_s, sr_r, sl_t, sl_l, sl_s, sl_r, sl_w, tu_t, tu_l, tu_r, li_t, li_l, li_r, lm_t, lm_l, mx2, mn2, ab1, in1, is2, rdIsB, rdNotB, rdIsN, rdNotN, TD.isNon, List.map_cons, List.map_nil, List.length_cons, List.length_nil, List.replicate_succ, List.replicate_zero, List.cons_append, List.nil_append, List.append_nil, Nat.zero_add, Nat.reduceAdd, Nat.reduceSub, Nat.sub_self, Nat.add_sub_cancel, List.getElem?_cons_zero, List.getElem?_cons_succ, List.getElem?_nil, List.set_cons_zero, List.set_cons_succ, List.set_nil, Option.some.injEq, D.int.injEq, D.bl.injEq, D.str.injEq, D.ref.injEq, D.ty.injEq, D.tup.injEq, D.lst.injEq, List.cons.injEq, and_true, true_and, ex_two, ex_two', exists_eq_left', exists_eq_left, exists_and_left, exists_and_right, exists_const, exists_eq_right, exists_eq_right', Bool.not_true, Bool.not_false, if_true, if_false, Bool.false_eq_true, reduceCtorEq, false_and, and_false, decide_true, decide_false, ← et, e1, e2, e3]
          refine ro_of ow ?_
          refine ne_self (pur_ints ns) (deq_intsS ns) ⟨_, rfl, ?_⟩
          rw [if_neg Bool.false_ne_true]
          refine rt_of w fun G1 he => ?_
          refine ne_self (z := tabD t) (pur_tab t) (deq_tabS t) ⟨_, rfl, ?_⟩
          rw [if_neg Bool.false_ne_true]
          refine ro_of ow ?_
          refine ne_self (pur_ints ns) (deq_intsS ns) ⟨_, rfl, ?_⟩
          rw [if_neg Bool.false_ne_true]
          have e4 : pickK 0 1 [0] [] [D.tup (t.map intsD)] = [tabD t] := pick1 _
          rw [e4]
          refine wt_of w ?_
          refine neS_self ⟨_, rfl, ?_⟩
          rw [if_neg Bool.false_ne_true]
          exact rest G1 he
theorem mo_of {A : Ad} {w : Str} {G : GH} {Q : DK} (f : Fine 1000 w) (q : Q (dueO w) G) :
    sp_read_order A [.str w] G (fun z G' => Q (.tup [.str "read", z]) G') (fun C' fs G' => ∃ z, C' = A.cTxt ∧ fs = [(("line" : Str), z)] ∧ Q (.tup [.str "bad", z]) G') := by
  refine ⟨sz5 (by have := f.len; omega), fun _ ho => ?_, fun _ ho => ⟨_, rfl, rfl, ?_⟩, fun z => absurd f.len z⟩
  · unfold dueO at q
    rw [if_pos ho] at q
    exact q
  · unfold dueO at q
    rw [if_neg ho] at q
    exact q
theorem mt_of {A : Ad} {w : Str} {G : GH} {Q : DK} (f : Fine 1000 w) (q : ∀ G', Ext G G' → Q (dueD (tblR w)) G') :
    sp_read_table A [.str w] G (fun z G' => Q (.tup [.str "read", z]) G') (fun C' fs G' => ∃ z, C' = A.cTxt ∧ fs = [(("line" : Str), z)] ∧ Q (.tup [.str "bad", z]) G') := by
  refine ⟨by have := f.len; omega, fun z => absurd f.len z, fun _ G' he => ?_⟩
  have k := q G' he
  cases e : tblR w with
  | bad n =>
    rw [e] at k
    exact ⟨_, rfl, rfl, k⟩
  | ok t =>
    rw [e] at k
    exact k
theorem lam_o {A : Ad} {P : Addr} {q : PySem.Str} {ρ : Rho} {x : XD} {G : GH} {Q : DK} {i : Nat} {w : Str} (hT : G P = some (.tab q)) (hρ : ρ[i]? = some (some (.str w))) (f : Fine 1000 w) (k : Q (dueO w) G) :
    dLamB A.cTxt P q "line" "read" "bad" (dCall (sp_read_order A) (dCons (dVar i) dNil)) ρ x G Q := ⟨hT, _, hρ, mo_of f k⟩
theorem lam_t {A : Ad} {P : Addr} {q : PySem.Str} {ρ : Rho} {x : XD} {G : GH} {Q : DK} {i : Nat} {w : Str} (hT : G P = some (.tab q)) (hρ : ρ[i]? = some (some (.str w))) (f : Fine 1000 w) (k : ∀ G', Ext G G' → Q (dueD (tblR w)) G') :
    dLamB A.cTxt P q "line" "read" "bad" (dCall (sp_read_table A) (dCons (dVar i) dNil)) ρ x G Q := ⟨hT, _, hρ, mt_of f k⟩
theorem ord_fine {ns : List Int} (ow : OrdW ns) : Fine 150 (ordT ns) := ⟨ordT_okt ow.bnd, by have := (ord_ok ow.len ow.bnd).1; omega⟩
theorem tab_fine {t : Tab} (w : WT t) : Fine 150 (tabT t) := ⟨tab_okt w, by have := len_tab w; omega⟩
def vars2 (a : Addr) (ns : List Int) (t : Tab) (o1 o9 o10 : Option D) : Rho := [some (.ref a), o1, some (intsD ns), some (tabD t), some (.str (ordT ns)), some (.str (tabT t)), none, none, none, o9, o10, none, none, none]
theorem tab_kept {A : Ad} {a : Addr} {m : Nat} {G G' : GH} {q : PySem.Str} {p : Addr} (d : Dc G a m) {n : Nat} (h : G p = some (.tab q)) (u : Upd a n G G') : G' p = some (.tab q) :=
  u.1 p _ (fun z => by obtain ⟨l, g, _⟩ := d; rw [z, g] at h; cases h) h
theorem stC {A : Ad} {a : Addr} {m : Nat} {G : GH} {Q : DK} {x : XD} {ns : List Int} {t : Tab} (ow : OrdW ns) (w : WT t) (d : Dc G a m) (hm : m ≤ 300000) (hT : G A.t_law_right = some (.tab "_law_right.<locals>.<lambda>"))
    (rest : ∀ o1 o9 o10 G', Upd a (m + 400) G G' → tl__law_right_5 A (LE Q x) (vars2 a ns t o1 o9 o10) G') : tl__law_right_4 A (LE Q x) (vars a ns t) G := by
  unfold tl__law_right_4 vars
  simp only [dRet, dRetN, dSeq, dAsg, dDrop, dIfS, dNext, dBreak, dCont, dPar, dSetL, dSetD, dFor, dVar, dC, dOp, dAndV, dOrV, dNotV, dAnd, dOr, dNot, dIf, dTest, dChain, dNil, dCons, dTup, dLst, dLstM, dStar, dNeg, dCB, dCall, dCallK, dMthT, dMth0, dLc, dYes, dISeq, dIStr, dIEnum, dIZip, dIRng1, dIRng2, dSl, dPart, dNoPart, dRaise, dDisp1, dNewD, dRevL, dRevT, dSortSet, dSortSetL, dIRng3, dGet2, dIKeys, dNewT, dSetT, dLstRg, dPar3, dLcM, dAugL, dSetdT, dDispT, dIItemsT, dIValsT, rdDInP, dFld, dSetF, dMake, dIKeysT, rdIsC, dCntC, dTupC, dSlC, dRevC, dISeqX, dMeth, dMeth0, dSetM, dNewM, lnX_t, lnX_l, srX_t, gdName, gdTup, gdCons, gdNil, dstart, dwipe, dAug, rdInt, rdSub, rdLt, rdLe, rdGt, rdGe, rdFdiv, rdMod, rdPow, at0, at1, at2, i30, i31, i32, set0, set1, set2, MO.lst.injEq, gup_same, gup_gup, ad_ii, ad_ss, ad_tt, ad_ll, mu_ii, mu_li, mu_ti, ix_t, ix_l, ix_s, ix_r, ix_w, ln_t, ln_l, ln_s, ln_w, ln_r, sr_t, sr_l, sr_s, sr_r, sl_t, sl_l, sl_s, sl_r, sl_w, tu_t, tu_l, tu_r, li_t, li_l, li_r, lm_t, lm_l, mx2, mn2, ab1, in1, is2, rdIsB, rdNotB, rdIsN, rdNotN, TD.isNon, List.map_cons, List.map_nil, List.length_cons, List.length_nil, List.replicate_succ, List.replicate_zero, List.cons_append, List.nil_append, List.append_nil, Nat.zero_add, Nat.reduceAdd, Nat.reduceSub, Nat.sub_self, Nat.add_sub_cancel, List.getElem?_cons_zero, List.getElem?_cons_succ, List.getElem?_nil, List.set_cons_zero, List.set_cons_succ, List.set_nil, Option.some.injEq, D.int.injEq, D.bl.injEq, D.str.injEq, D.ref.injEq, D.ty.injEq, D.tup.injEq, D.lst.injEq, List.cons.injEq, and_true, true_and, ex_two, ex_two', exists_eq_left', exists_eq_left, exists_and_left, exists_and_right, exists_const, exists_eq_right, exists_eq_right', Bool.not_true, Bool.not_false, if_true, if_false, Bool.false_eq_true, reduceCtorEq, false_and, and_false, decide_true, decide_false]
  refine ⟨by omega, sz _ (by decide), ?_⟩
  refine dLoop_inv (fun i ρ G' => ∃ o1 o9 o10, ρ = vars2 a ns t o1 o9 o10 ∧ Upd a (m + 40 * i) G G') 0 ⟨none, none, none, rfl, Upd.refl d⟩ (fun _ _ _ _ _ _ => trivial) (fun i dd ρ G1 hi hI K1 hK => ?_) (fun ρ G1 hI => ?_)
  · obtain ⟨o1, o9, o10, rfl, u1⟩ := hI
    obtain ⟨hi1, rfl⟩ := rngD_get hi
    rw [Nat.zero_add] at *
    have hi8 : i < 8 := hi1
    unfold vars2
    simp only [dRet, dRetN, dSeq, dAsg, dDrop, dIfS, dNext, dBreak, dCont, dPar, dSetL, dSetD, dFor, dVar, dC, dOp, dAndV, dOrV, dNotV, dAnd, dOr, dNot, dIf, dTest, dChain, dNil, dCons, dTup, dLst, dLstM, dStar, dNeg, dCB, dCall, dCallK, dMthT, dMth0, dLc, dYes, dISeq, dIStr, dIEnum, dIZip, dIRng1, dIRng2, dSl, dPart, dNoPart, dRaise, dDisp1, dNewD, dRevL, dRevT, dSortSet, dSortSetL, dIRng3, dGet2, dIKeys, dNewT, dSetT, dLstRg, dPar3, dLcM, dAugL, dSetdT, dDispT, dIItemsT, dIValsT, rdDInP, dFld, dSetF, dMake, dIKeysT, rdIsC, dCntC, dTupC, dSlC, dRevC, dISeqX, dMeth, dMeth0, dSetM, dNewM, lnX_t, lnX_l, srX_t, gdName, gdTup, gdCons, gdNil, dstart, dwipe, dAug, rdInt, rdSub, rdLt, rdLe, rdGt, rdGe, rdFdiv, rdMod, rdPow, at0, at1, at2, i30, i31, i32, set0, set1, set2, MO.lst.injEq, gup_same, gup_gup, ad_ii, ad_ss, ad_tt, ad_ll, mu_ii, mu_li, mu_ti, ix_t, ix_l, ix_s, ix_r, ix_w, ln_t, ln_l, ln_s, ln_w, ln_r, sr_t, sr_l, sr_s, sr_r, sl_t, sl_l, sl_s, sl_r, sl_w, tu_t, tu_l, tu_r, li_t, li_l, li_r, lm_t, lm_l, mx2, mn2, ab1, in1, is2, rdIsB, rdNotB, rdIsN, rdNotN, TD.isNon, List.map_cons, List.map_nil, List.length_cons, List.length_nil, List.replicate_succ, List.replicate_zero, List.cons_append, List.nil_append, List.append_nil, Nat.zero_add, Nat.reduceAdd, Nat.reduceSub, Nat.sub_self, Nat.add_sub_cancel, List.getElem?_cons_zero, List.getElem?_cons_succ, List.getElem?_nil, List.set_cons_zero, List.set_cons_succ, List.set_nil, Option.some.injEq, D.int.injEq, D.bl.injEq, D.str.injEq, D.ref.injEq, D.ty.injEq, D.tup.injEq, D.lst.injEq, List.cons.injEq, and_true, true_and, ex_two, ex_two', exists_eq_left', exists_eq_left, exists_and_left, exists_and_right, exists_const, exists_eq_right, exists_eq_right', Bool.not_true, Bool.not_false, if_true, if_false, Bool.false_eq_true, reduceCtorEq, false_and, and_false, decide_true, decide_false]
    refine ⟨_, u1.2, by omega, ord_fine ow, fun s1 G2 f1 u2 => ?_⟩
    try simp only [dRet, dRetN, dSeq, dAsg, dDrop, dIfS, dNext, dBreak, dCont, dPar, dSetL, dSetD, dFor, dVar, dC, dOp, dAndV, dOrV, dNotV, dAnd, dOr, dNot, dIf, dTest, dChain, dNil, dCons, dTup, dLst, dLstM, dStar, dNeg, dCB, dCall, dCallK, dMthT, dMth0, dLc, dYes, dISeq, dIStr, dIEnum, dIZip, dIRng1, dIRng2, dSl, dPart, dNoPart, dRaise, dDisp1, dNewD, dRevL, dRevT, dSortSet, dSortSetL, dIRng3, dGet2, dIKeys, dNewT, dSetT, dLstRg, dPar3, dLcM, dAugL, dSetdT, dDispT, dIItemsT, dIValsT, rdDInP, dFld, dSetF, dMake, dIKeysT, rdIsC, dCntC, dTupC, dSlC, dRevC, dISeqX, dMeth, dMeth0, dSetM, dNewM, lnX_t, lnX_l, srX_t, gdName, gdTup, gdCons, gdNil, dstart, dwipe, dAug, rdInt, rdSub, rdLt, rdLe, rdGt, rdGe, rdFdiv, rdMod, rdPow, at0, at1, at2, i30, i31, i32, set0, set1, set2, MO.lst.injEq, gup_same, gup_gup, ad_ii, ad_ss, ad_tt, ad_ll, mu_ii, mu_li, mu_ti, ix_t, ix_l, ix_s, ix_r, ix_w, ln_t, ln_l, ln_s, ln_w, ln_r, sr_t, sr_l, sr_s, sr_r, sl_t, sl_l, sl_s, sl_r, sl_w, tu_t, tu_l, tu_r, li_t, li_l, li_r, lm_t, lm_l, mx2, mn2, ab1, in1, is2, rdIsB, rdNotB, rdIsN, rdNotN, TD.isNon, List.map_cons, List.map_nil, List.length_cons, List.length_nil, List.replicate_succ, List.replicate_zero, List.cons_append, List.nil_append, List.append_nil, Nat.zero_add, Nat.reduceAdd, Nat.reduceSub, Nat.sub_self, Nat.add_sub_cancel, List.getElem?_cons_zero, List.getElem?_cons_succ, List.getElem?_nil, List.set_cons_zero, List.set_cons_succ, List.set_nil, Option.some.injEq, D.int.injEq, D.bl.injEq, D.str.injEq, D.ref.injEq, D.ty.injEq, D.tup.injEq, D.lst.injEq, List.cons.injEq, and_true, true_and, ex_two, ex_two', exists_eq_left', exists_eq_left, exists_and_left, exists_and_right, exists_const, exists_eq_right, exists_eq_right', Bool.not_true, Bool.not_false, if_true, if_false, Bool.false_eq_true, reduceCtorEq, false_and, and_false, decide_true, decide_false]
    refine ⟨_, u2.2, by omega, tab_fine w, fun s2 G3 f2 u3 => ?_⟩
    have v3 := (u1.trans u2).trans u3
    have t3 := tab_kept (A := A) d hT v3
    simp only [dRet, dRetN, dSeq, dAsg, dDrop, dIfS, dNext, dBreak, dCont, dPar, dSetL, dSetD, dFor, dVar, dC, dOp, dAndV, dOrV, dNotV, dAnd, dOr, dNot, dIf, dTest, dChain, dNil, dCons, dTup, dLst, dLstM, dStar, dNeg, dCB, dCall, dCallK, dMthT, dMth0, dLc, dYes, dISeq, dIStr, dIEnum, dIZip, dIRng1, dIRng2, dSl, dPart, dNoPart, dRaise, dDisp1, dNewD, dRevL, dRevT, dSortSet, dSortSetL, dIRng3, dGet2, dIKeys, dNewT, dSetT, dLstRg, dPar3, dLcM, dAugL, dSetdT, dDispT, dIItemsT, dIValsT, rdDInP, dFld, dSetF, dMake, dIKeysT, rdIsC, dCntC, dTupC, dSlC, dRevC, dISeqX, dMeth, dMeth0, dSetM, dNewM, lnX_t, lnX_l, srX_t, gdName, gdTup, gdCons, gdNil, dstart, dwipe, dAug, rdInt, rdSub, rdLt, rdLe, rdGt, rdGe, rdFdiv, rdMod, rdPow, at0, at1, at2, i30, i31, i32, set0, set1, set2, MO.lst.injEq, gup_same, gup_gup, ad_ii, ad_ss, ad_tt, ad_ll, mu_ii, mu_li, mu_ti, ix_t, ix_l, ix_s, ix_r, ix_w, ln_t, ln_l, ln_s, ln_w, ln_r, sr_t, sr_l, sr_s, sr_r, sl_t, sl_l, sl_s, sl_r, sl_w, tu_t, tu_l, tu_r, li_t, li_l, li_r, lm_t, lm_l, mx2, mn2, ab1, in1, is2, rdIsB, rdNotB, rdIsN, rdNotN, TD.isNon, List.map_cons, List.map_nil, List.length_cons, List.length_nil, List.replicate_succ, List.replicate_zero, List.cons_append, List.nil_append, List.append_nil, Nat.zero_add, Nat.reduceAdd, Nat.reduceSub, Nat.sub_self, Nat.add_sub_cancel, List.getElem?_cons_zero, List.getElem?_cons_succ, List.getElem?_nil, List.set_cons_zero, List.set_cons_succ, List.set_nil, Option.some.injEq, D.int.injEq, D.bl.injEq, D.str.injEq, D.ref.injEq, D.ty.injEq, D.tup.injEq, D.lst.injEq, List.cons.injEq, and_true, true_and, ex_two, ex_two', exists_eq_left', exists_eq_left, exists_and_left, exists_and_right, exists_const, exists_eq_right, exists_eq_right', Bool.not_true, Bool.not_false, if_true, if_false, Bool.false_eq_true, reduceCtorEq, false_and, and_false, decide_true, decide_false]
    refine ⟨sz _ (by omega), ?_⟩
    refine lam_o t3 rfl f1 ?_
    refine rp_of (rp_ord s1) ?_
    try simp only [dRet, dRetN, dSeq, dAsg, dDrop, dIfS, dNext, dBreak, dCont, dPar, dSetL, dSetD, dFor, dVar, dC, dOp, dAndV, dOrV, dNotV, dAnd, dOr, dNot, dIf, dTest, dChain, dNil, dCons, dTup, dLst, dLstM, dStar, dNeg, dCB, dCall, dCallK, dMthT, dMth0, dLc, dYes, dISeq, dIStr, dIEnum, dIZip, dIRng1, dIRng2, dSl, dPart, dNoPart, dRaise, dDisp1, dNewD, dRevL, dRevT, dSortSet, dSortSetL, dIRng3, dGet2, dIKeys, dNewT, dSetT, dLstRg, dPar3, dLcM, dAugL, dSetdT, dDispT, dIItemsT, dIValsT, rdDInP, dFld, dSetF, dMake, dIKeysT, rdIsC, dCntC, dTupC, dSlC, dRevC, dISeqX, dMeth, dMeth0, dSetM, dNewM, lnX_t, lnX_l, srX_t, gdName, gdTup, gdCons, gdNil, dstart, dwipe, dAug, rdInt, rdSub, rdLt, rdLe, rdGt, rdGe, rdFdiv, rdMod, rdPow, at0, at1, at2, i30, i31, i32, set0, set1, set2, MO.lst.injEq, gup_same, gup_gup, ad_ii, ad_ss, ad_tt, ad_ll, mu_ii, mu_li, mu_ti, ix_t, ix_l, ix_s, ix_r, ix_w, ln_t, ln_l, ln_s, ln_w, ln_r, sr_t, sr_l, sr_s, sr_r, sl_t, sl_l, sl_s, sl_r, sl_w, tu_t, tu_l, tu_r, li_t, li_l, li_r, lm_t, lm_l, mx2, mn2, ab1, in1, is2, rdIsB, rdNotB, rdIsN, rdNotN, TD.isNon, List.map_cons, List.map_nil, List.length_cons, List.length_nil, List.replicate_succ, List.replicate_zero, List.cons_append, List.nil_append, List.append_nil, Nat.zero_add, Nat.reduceAdd, Nat.reduceSub, Nat.sub_self, Nat.add_sub_cancel, List.getElem?_cons_zero, List.getElem?_cons_succ, List.getElem?_nil, List.set_cons_zero, List.set_cons_succ, List.set_nil, Option.some.injEq, D.int.injEq, D.bl.injEq, D.str.injEq, D.ref.injEq, D.ty.injEq, D.tup.injEq, D.lst.injEq, List.cons.injEq, and_true, true_and, ex_two, ex_two', exists_eq_left', exists_eq_left, exists_and_left, exists_and_right, exists_const, exists_eq_right, exists_eq_right', Bool.not_true, Bool.not_false, if_true, if_false, Bool.false_eq_true, reduceCtorEq, false_and, and_false, decide_true, decide_false]
    refine ⟨f1.okt, by have := f1.len; omega, ?_⟩
    refine rp_of (rp_ord s1) ?_
    refine neS_self ⟨_, rfl, ?_⟩
    rw [if_neg Bool.false_ne_true]
    refine lam_t t3 rfl f2 fun G4 e4 => ?_
    refine rp_of (rp_due f2.len) ?_
    try simp only [dRet, dRetN, dSeq, dAsg, dDrop, dIfS, dNext, dBreak, dCont, dPar, dSetL, dSetD, dFor, dVar, dC, dOp, dAndV, dOrV, dNotV, dAnd, dOr, dNot, dIf, dTest, dChain, dNil, dCons, dTup, dLst, dLstM, dStar, dNeg, dCB, dCall, dCallK, dMthT, dMth0, dLc, dYes, dISeq, dIStr, dIEnum, dIZip, dIRng1, dIRng2, dSl, dPart, dNoPart, dRaise, dDisp1, dNewD, dRevL, dRevT, dSortSet, dSortSetL, dIRng3, dGet2, dIKeys, dNewT, dSetT, dLstRg, dPar3, dLcM, dAugL, dSetdT, dDispT, dIItemsT, dIValsT, rdDInP, dFld, dSetF, dMake, dIKeysT, rdIsC, dCntC, dTupC, dSlC, dRevC, dISeqX, dMeth, dMeth0, dSetM, dNewM, lnX_t, lnX_l, srX_t, gdName, gdTup, gdCons, gdNil, dstart, dwipe, dAug, rdInt, rdSub, rdLt, rdLe, rdGt, rdGe, rdFdiv, rdMod, rdPow, at0, at1, at2, i30, i31, i32, set0, set1, set2, MO.lst.injEq, gup_same, gup_gup, ad_ii, ad_ss, ad_tt, ad_ll, mu_ii, mu_li, mu_ti, ix_t, ix_l, ix_s, ix_r, ix_w, ln_t, ln_l, ln_s, ln_w, ln_r, sr_t, sr_l, sr_s, sr_r, sl_t, sl_l, sl_s, sl_r, sl_w, tu_t, tu_l, tu_r, li_t, li_l, li_r, lm_t, lm_l, mx2, mn2, ab1, in1, is2, rdIsB, rdNotB, rdIsN, rdNotN, TD.isNon, List.map_cons, List.map_nil, List.length_cons, List.length_nil, List.replicate_succ, List.replicate_zero, List.cons_append, List.nil_append, List.append_nil, Nat.zero_add, Nat.reduceAdd, Nat.reduceSub, Nat.sub_self, Nat.add_sub_cancel, List.getElem?_cons_zero, List.getElem?_cons_succ, List.getElem?_nil, List.set_cons_zero, List.set_cons_succ, List.set_nil, Option.some.injEq, D.int.injEq, D.bl.injEq, D.str.injEq, D.ref.injEq, D.ty.injEq, D.tup.injEq, D.lst.injEq, List.cons.injEq, and_true, true_and, ex_two, ex_two', exists_eq_left', exists_eq_left, exists_and_left, exists_and_right, exists_const, exists_eq_right, exists_eq_right', Bool.not_true, Bool.not_false, if_true, if_false, Bool.false_eq_true, reduceCtorEq, false_and, and_false, decide_true, decide_false]
    refine ⟨f2.okt, by have := f2.len; omega, fun G5 e5 => ?_⟩
    refine rp_of (rp_due f2.len) ?_
    refine neS_self ⟨_, rfl, ?_⟩
    rw [if_neg Bool.false_ne_true]
    exact hK _ _ ⟨_, _, _, rfl, ((v3.ext e4).ext e5).mono (by omega)⟩
  · obtain ⟨o1, o9, o10, rfl, u1⟩ := hI
    rw [rngD_len] at u1
    exact rest o1 o9 o10 G1 (u1.mono (by show m + 40 * (0 + 8) ≤ m + 400; omega))
end K00
namespace K00
open PySem L2 TD
theorem ro_no {A : Ad} {z : D} {G : GH} {Q : DK} {x : XD} (h : NotS z) (q : BadT A x G 0) : sp_read_order A [z] G Q x := by
  unfold sp_read_order
  split
  · rename_i w e
    injection e with e
    subst e
    exact absurd rfl h.2
  · rename_i e
    injection e with e
    subst e
    exact ⟨h, q⟩
  · rename_i h1 h2
    exact absurd rfl (h2 z)
theorem rt_no {A : Ad} {z : D} {G : GH} {Q : DK} {x : XD} (h : NotS z) (q : BadT A x G 0) : sp_read_table A [z] G Q x := by
  unfold sp_read_table
  split
  · rename_i w e
    injection e with e
    subst e
    exact absurd rfl h.2
  · rename_i e
    injection e with e
    subst e
    exact ⟨h, q⟩
  · rename_i h1 h2
    exact absurd rfl (h2 z)
def BadV (z : D) : Prop := NotS z ∨ ∃ w, z = .str w ∧ 1000 < w.length ∧ w.length ≤ 100000
theorem ro_bad {A : Ad} {z : D} {G : GH} {Q : DK} {x : XD} (h : BadV z) (q : BadT A x G 0) : sp_read_order A [z] G Q x := by
  rcases h with h | ⟨w, rfl, h1, h2⟩
  · exact ro_no h q
  · exact ⟨sz5 (by omega), fun c => absurd c (by omega), fun c => absurd c (by omega), fun _ => q⟩
theorem rt_bad {A : Ad} {z : D} {G : GH} {Q : DK} {x : XD} (h : BadV z) (q : BadT A x G 0) : sp_read_table A [z] G Q x := by
  rcases h with h | ⟨w, rfl, h1, h2⟩
  · exact rt_no h q
  · exact ⟨by omega, fun _ => q, fun c => absurd c (by omega)⟩
theorem lam_ob {A : Ad} {P : Addr} {q : PySem.Str} {ρ : Rho} {x : XD} {G : GH} {Q : DK} {i : Nat} {z : D} (hT : G P = some (.tab q)) (hρ : ρ[i]? = some (some z)) (h : BadV z) (k : Q (.tup [.str "bad", .int 0]) G) :
    dLamB A.cTxt P q "line" "read" "bad" (dCall (sp_read_order A) (dCons (dVar i) dNil)) ρ x G Q := by
  refine ⟨hT, _, hρ, ?_⟩
  show sp_read_order A [z] G (fun z G' => Q (.tup [.str "read", z]) G') (fun C' fs G' => ∃ z, C' = A.cTxt ∧ fs = [(("line" : Str), z)] ∧ Q (.tup [.str "bad", z]) G')
  exact ro_bad h ⟨_, rfl, rfl, k⟩
theorem lam_tb {A : Ad} {P : Addr} {q : PySem.Str} {ρ : Rho} {x : XD} {G : GH} {Q : DK} {i : Nat} {z : D} (hT : G P = some (.tab q)) (hρ : ρ[i]? = some (some z)) (h : BadV z) (k : Q (.tup [.str "bad", .int 0]) G) :
    dLamB A.cTxt P q "line" "read" "bad" (dCall (sp_read_table A) (dCons (dVar i) dNil)) ρ x G Q := by
  refine ⟨hT, _, hρ, ?_⟩
  show sp_read_table A [z] G (fun z G' => Q (.tup [.str "read", z]) G') (fun C' fs G' => ∃ z, C' = A.cTxt ∧ fs = [(("line" : Str), z)] ∧ Q (.tup [.str "bad", z]) G')
  exact rt_bad h ⟨_, rfl, rfl, k⟩
structure OddV (z : D) : Prop where
  pur : Pur z
  ord : areIn z 0 6 0 4 = false
  tab : isTab z = false
theorem lam_wo {A : Ad} {P : Addr} {q : PySem.Str} {ρ : Rho} {x : XD} {G : GH} {Q : DK} {i : Nat} {z : D} (hT : G P = some (.tab q)) (hρ : ρ[i]? = some (some z)) (h : OddV z) (k : Q (.str "order") G) :
    dLamA A.cBad P q "name" (dCall (sp_write_order A) (dCons (dVar i) dNil)) ρ x G Q := by
  refine ⟨hT, _, hρ, h.pur, fun _ => ⟨_, rfl, rfl, k⟩, fun ns e hl hb => ?_⟩
  obtain rfl := e
  have := h.ord
  rw [areIn_ints] at this
  simp only [Bool.and_eq_false_iff, decide_eq_false_iff_not] at this
  exfalso
  rcases this with (z | z) | z
  · omega
  · omega
  · have e : (ns.all fun x => decide (0 ≤ x) && decide (x ≤ 4)) = true := by
      rw [List.all_eq_true]
      intro y hy
      have := hb y hy
      simp [this.1, this.2]
    rw [e] at z
    cases z
theorem lam_wt {A : Ad} {P : Addr} {q : PySem.Str} {ρ : Rho} {x : XD} {G : GH} {Q : DK} {i : Nat} {z : D} (hT : G P = some (.tab q)) (hρ : ρ[i]? = some (some z)) (h : OddV z) (k : Q (.str "table") G) :
    dLamA A.cBad P q "name" (dCall (sp_write_table A) (dCons (dVar i) dNil)) ρ x G Q := by
  refine ⟨hT, _, hρ, h.pur, fun _ => ⟨_, rfl, rfl, k⟩, fun t e w => ?_⟩
  obtain rfl := e
  have := h.tab
  rw [isTab_tab w] at this
  cases this
theorem many_len : (manyS "0" 1001).length = 1001 := by decide +kernel
theorem bad_pick {z : D} (hz : z ∈ [D.non, .int 5, .tup [], .lst [.str "0"], .bl true, .str (manyS "0" 1001)]) : BadV z := by
  simp only [List.mem_cons, List.not_mem_nil, or_false] at hz
  rcases hz with rfl | rfl | rfl | rfl | rfl | rfl
  · exact .inl ⟨rfl, by decide⟩
  · exact .inl ⟨rfl, by decide⟩
  · exact .inl ⟨rfl, by decide⟩
  · exact .inl ⟨by decide +kernel, by decide⟩
  · exact .inl ⟨rfl, by decide⟩
  · exact .inr ⟨_, rfl, by rw [many_len]; omega, by rw [many_len]; omega⟩
theorem odd_pick {z : D} (hz : z ∈ [D.non, .lst [.int 0], .tup [.int 5], .tup [.int 0, .int 0, .int 0, .int 0, .int 0, .int 0, .int 0], .tup [.bl true], .tup [.tup [.int 1, .int 2]], .tup [.tup [.int 1001]]]) : OddV z := by
  simp only [List.mem_cons, List.not_mem_nil, or_false] at hz
  rcases hz with rfl | rfl | rfl | rfl | rfl | rfl | rfl <;> exact ⟨by decide +kernel, by decide +kernel, by decide +kernel⟩
theorem bads_eq : deq (D.lst [D.tup [D.str "bad", D.int 0], D.tup [D.str "bad", D.int 0]]) (D.lst (List.replicate (Int.toNat 2) [D.tup [D.str "bad", D.int 0]]).flatten) = true := by
  show deq (D.lst [D.tup [D.str "bad", D.int 0], D.tup [D.str "bad", D.int 0]]) (D.lst [D.tup [D.str "bad", D.int 0], D.tup [D.str "bad", D.int 0]]) = true
  simp [deq, deqs]
theorem odds_eq : deq (D.lst [D.str "order", D.str "table"]) (D.lst [D.str "order", D.str "table"]) = true := by
  simp [deq, deqs]
theorem stD {A : Ad} {a : Addr} {m : Nat} {G : GH} {Q : DK} {x : XD} {ns : List Int} {t : Tab} {o1 o9 o10 : Option D} (d : Dc G a m) (hm : m ≤ 400000) (hT : G A.t_law_right = some (.tab "_law_right.<locals>.<lambda>"))
    (q : ∀ G', Upd a (m + 2) G G' → Q (.bl true) G') : tl__law_right_5 A (LE Q x) (vars2 a ns t o1 o9 o10) G := by
  unfold tl__law_right_5 vars2
  simp only [dRet, dRetN, dSeq, dAsg, dDrop, dIfS, dNext, dBreak, dCont, dPar, dSetL, dSetD, dFor, dVar, dC, dOp, dAndV, dOrV, dNotV, dAnd, dOr, dNot, dIf, dTest, dChain, dNil, dCons, dTup, dLst, dLstM, dStar, dNeg, dCB, dCall, dCallK, dMthT, dMth0, dLc, dYes, dISeq, dIStr, dIEnum, dIZip, dIRng1, dIRng2, dSl, dPart, dNoPart, dRaise, dDisp1, dNewD, dRevL, dRevT, dSortSet, dSortSetL, dIRng3, dGet2, dIKeys, dNewT, dSetT, dLstRg, dPar3, dLcM, dAugL, dSetdT, dDispT, dIItemsT, dIValsT, rdDInP, dFld, dSetF, dMake, dIKeysT, rdIsC, dCntC, dTupC, dSlC, dRevC, dISeqX, dMeth, dMeth0, dSetM, dNewM, lnX_t, lnX_l, srX_t, gdName, gdTup, gdCons, gdNil, dstart, dwipe, dAug, rdInt, rdSub, rdLt, rdLe, rdGt, rdGe, rdFdiv, rdMod, rdPow, at0, at1, at2, i30, i31, i32, set0, set1, set2, MO.lst.injEq, gup_same, gup_gup, ad_ii, ad_ss, ad_tt, ad_ll, mu_ii, mu_li, mu_ti, ix_t, ix_l, ix_s, ix_r, ix_w, ln_t, ln_l, ln_s, ln_w, ln_r, sr_t, sr_l, sr_s, sr_r, sl_t, sl_l, sl_s, sl_r, sl_w, tu_t, tu_l, tu_r, li_t, li_l, li_r, lm_t, lm_l, mx2, mn2, ab1, in1, is2, rdIsB, rdNotB, rdIsN, rdNotN, TD.isNon, List.map_cons, List.map_nil, List.length_cons, List.length_nil, List.replicate_succ, List.replicate_zero, List.cons_append, List.nil_append, List.append_nil, Nat.zero_add, Nat.reduceAdd, Nat.reduceSub, Nat.sub_self, Nat.add_sub_cancel, List.getElem?_cons_zero, List.getElem?_cons_succ, List.getElem?_nil, List.set_cons_zero, List.set_cons_succ, List.set_nil, Option.some.injEq, D.int.injEq, D.bl.injEq, D.str.injEq, D.ref.injEq, D.ty.injEq, D.tup.injEq, D.lst.injEq, List.cons.injEq, and_true, true_and, ex_two, ex_two', exists_eq_left', exists_eq_left, exists_and_left, exists_and_right, exists_const, exists_eq_right, exists_eq_right', Bool.not_true, Bool.not_false, if_true, if_false, Bool.false_eq_true, reduceCtorEq, false_and, and_false, decide_true, decide_false, rdMulS]
  have n0 : ("0" : Str).length = 1 := by decide +kernel
  refine ⟨sz _ (by omega), sz _ (by omega), 1001, rfl, by omega, by omega, n0, by rw [many_len]; exact sz5 (by omega), sz _ (by omega), ?_⟩
  refine pick_of d (by omega) (by show 0 < 6; decide) (by show 6 < 1000000; decide) fun z1 hz1 G1 u1 => ?_
  have b1 := bad_pick hz1
  refine ⟨sz _ (by omega), sz _ (by omega), sz _ (by omega), by simp, by omega, by omega, by omega, sz _ (by omega), sz _ (by omega), sz _ (by omega), sz _ (by omega), sz _ (by omega), sz _ (by omega), ?_⟩
  refine pick_of u1.2 (by omega) (by show 0 < 7; decide) (by show 7 < 1000000; decide) fun z2 hz2 G2 u2 => ?_
  have b2 := odd_pick hz2
  have u := u1.trans u2
  have t2 := tab_kept (A := A) d hT u
  refine ⟨sz _ (by omega), ?_⟩
  refine lam_ob t2 rfl b1 ?_
  refine lam_tb t2 rfl b1 ?_
  refine ⟨sz _ (by omega), sz _ (by omega), sz _ (by omega), by omega, by omega, sz _ (by decide), ?_⟩
  refine ⟨60, by omega, by decide +kernel, by decide +kernel, ?_⟩
  rw [bads_eq]
  refine ⟨true, rfl, ?_⟩
  rw [if_pos rfl]
  refine lam_wo t2 rfl b2 ?_
  refine lam_wt t2 rfl b2 ?_
  refine ⟨sz _ (by omega), sz _ (by omega), 60, by omega, by decide +kernel, by decide +kernel, ?_⟩
  rw [odds_eq]
  exact q G2 u
theorem read__law_right {A : Ad} {zs : List D} {G : GH} {Q : DK} {x : XD} (h : sp__law_right A zs G Q x) : ds__law_right A { nx := fun _ G' => Q .non G', rt := Q, xx := fun _ => x } (dstart N__law_right zs) G := by
  unfold sp__law_right at h
  split at h
  · rename_i a
    obtain ⟨m, d, hm, hT, q⟩ := h
    refine stA d (by omega) fun ns t G1 ow w u1 => ?_
    refine stB ow w fun G2 e2 => ?_
    have u2 := u1.ext e2
    refine stC ow w u2.2 (by omega) (tab_kept (A := A) d hT u2) fun o1 o9 o10 G3 u3 => ?_
    have v3 := u2.trans u3
    exact stD v3.2 (by omega) (tab_kept (A := A) d hT v3) fun G4 u4 => q G4 ((v3.trans u4).mono (by omega))
  · exact h.elim
/-! ### the law -/
def sp_law (A : Ad) : SpD := fun zs G Q _ => match zs with
  | [.scr ns] => ns.length ≤ 63 ∧ G A.t_law_right = some (.tab "_law_right.<locals>.<lambda>") ∧ G A.tlaw = some (.tab "law.<locals>.<lambda>") ∧ ∀ G', Q (.bl true) G'
  | _ => False
theorem len_law {A : Ad} {zs : List D} {G : GH} {Q : DK} {x : XD} (h : sp_law A zs G Q x) : zs.length = 1 := by
  unfold sp_law at h
  split at h <;> first | rfl | exact h.elim
def ds_law (A : Ad) : DS := dSeq (dFor (dIRng1 (dCons (dCB rdMax2 (dCons (dC (.int 1)) (dCons (dCB rdMin2 (dCons (dC (.int 6)) (dCons (dCB rdLen (dCons (dVar 0) dNil)) dNil))) dNil))) dNil)) (gdName 1) (dIfS (dNot (dTest (dCall (sp__law_right A) (dCons (dCall (sp__law_dice A) (dCons (dVar 0) (dCons (dVar 1) dNil))) dNil)))) (dRet (dC (.bl false))) dNext)) (dRet (dAndV (dOp rdEq (dCall (sp_read_order A) (dCons (dC (.str "")) dNil)) (dTup dNil)) (dOp rdEq (dLamB A.cTxt A.tlaw "law.<locals>.<lambda>" "line" "read" "bad" (dCall (sp_read_table A) (dCons (dC (.str "")) dNil))) (dTup (dCons (dC (.str "bad")) (dCons (dC (.int 1)) dNil))))))
def N_law : List PySem.Str := ["script", "spot"]
theorem nil_ord : OrdOK ("" : Str) := ⟨by decide +kernel, fun c hc => by rw [tl_E] at hc; cases hc⟩
theorem nil_ordV : ordV ("" : Str) = [] := by
  unfold ordV
  rw [tl_E, List.map_nil]
theorem nil_split {y : Str} (s : Sep y) : Txt.split ("" : Str) y = [("" : Str)] := by
  refine TL.map_tl_inj ?_
  rw [split_tl s, tl_E, TL.spl_nil, List.map_cons, List.map_nil, tl_E]
theorem nil_tbl : tblR ("" : Str) = .bad 1 := by
  unfold tblR
  rw [nil_split sep_NL]
  unfold go
  rw [if_pos]
  unfold LineBad
  refine .inr (.inr (.inr fun h => ?_))
  have hn : nums ("" : Str) = [-1] := by
    unfold nums
    rw [nil_split sep_SP, List.map_cons, List.map_nil]
    have : numOf ("" : Str) = -1 := if_pos (.inl (.inl (by decide +kernel)))
    rw [this]
  have := h (-1) (by rw [hn]; exact List.mem_singleton.mpr rfl)
  omega
theorem nil_fine : Fine 1000 ("" : Str) := ⟨okt_dec (by decide +kernel), by decide +kernel⟩
theorem one_eq : deq (D.tup [D.str "bad", D.int 1]) (D.tup [D.str "bad", D.int 1]) = true := by
  simp [deq, deqs]
theorem lam_c {A : Ad} {P : Addr} {q : PySem.Str} {ρ : Rho} {x : XD} {G : GH} {Q : DK} {w : Str} (hT : G P = some (.tab q)) (f : Fine 1000 w) (k : ∀ G', Ext G G' → Q (dueD (tblR w)) G') :
    dLamB A.cTxt P q "line" "read" "bad" (dCall (sp_read_table A) (dCons (dC (.str w)) dNil)) ρ x G Q := ⟨hT, mt_of f k⟩
theorem read_law {A : Ad} {zs : List D} {G : GH} {Q : DK} {x : XD} (h : sp_law A zs G Q x) : ds_law A { nx := fun _ G' => Q .non G', rt := Q, xx := fun _ => x } (dstart N_law zs) G := by
  unfold sp_law at h
  split at h
  · rename_i ns
    obtain ⟨hl, h1, h2, q⟩ := h
    unfold N_law ds_law
    simp only [dRet, dRetN, dSeq, dAsg, dDrop, dIfS, dNext, dBreak, dCont, dPar, dSetL, dSetD, dFor, dVar, dC, dOp, dAndV, dOrV, dNotV, dAnd, dOr, dNot, dIf, dTest, dChain, dNil, dCons, dTup, dLst, dLstM, dStar, dNeg, dCB, dCall, dCallK, dMthT, dMth0, dLc, dYes, dISeq, dIStr, dIEnum, dIZip, dIRng1, dIRng2, dSl, dPart, dNoPart, dRaise, dDisp1, dNewD, dRevL, dRevT, dSortSet, dSortSetL, dIRng3, dGet2, dIKeys, dNewT, dSetT, dLstRg, dPar3, dLcM, dAugL, dSetdT, dDispT, dIItemsT, dIValsT, rdDInP, dFld, dSetF, dMake, dIKeysT, rdIsC, dCntC, dTupC, dSlC, dRevC, dISeqX, dMeth, dMeth0, dSetM, dNewM, lnX_t, lnX_l, srX_t, gdName, gdTup, gdCons, gdNil, dstart, dwipe, dAug, rdInt, rdSub, rdLt, rdLe, rdGt, rdGe, rdFdiv, rdMod, rdPow, at0, at1, at2, i30, i31, i32, set0, set1, set2, MO.lst.injEq, gup_same, gup_gup, ad_ii, ad_ss, ad_tt, ad_ll, mu_ii, mu_li, mu_ti, ix_t, ix_l, ix_s, ix_r, ix_w, ln_t, ln_l, ln_s, ln_w, ln_r, sr_t, sr_l, sr_s, sr_r, sl_t, sl_l, sl_s, sl_r, sl_w, tu_t, tu_l, tu_r, li_t, li_l, li_r, lm_t, lm_l, mx2, mn2, ab1, in1, is2, rdIsB, rdNotB, rdIsN, rdNotN, TD.isNon, List.map_cons, List.map_nil, List.length_cons, List.length_nil, List.replicate_succ, List.replicate_zero, List.cons_append, List.nil_append, List.append_nil, Nat.zero_add, Nat.reduceAdd, Nat.reduceSub, Nat.sub_self, Nat.add_sub_cancel, List.getElem?_cons_zero, List.getElem?_cons_succ, List.getElem?_nil, List.set_cons_zero, List.set_cons_succ, List.set_nil, Option.some.injEq, D.int.injEq, D.bl.injEq, D.str.injEq, D.ref.injEq, D.ty.injEq, D.tup.injEq, D.lst.injEq, List.cons.injEq, and_true, true_and, ex_two, ex_two', exists_eq_left', exists_eq_left, exists_and_left, exists_and_right, exists_const, exists_eq_right, exists_eq_right', Bool.not_true, Bool.not_false, if_true, if_false, Bool.false_eq_true, reduceCtorEq, false_and, and_false, decide_true, decide_false]
    have hn : ∃ n : Nat, n ≤ 6 ∧ (if (if (ns.length : Int) < 6 then (ns.length : Int) else 6) > 1 then (if (ns.length : Int) < 6 then (ns.length : Int) else 6) else 1) = (n : Int) := by
      by_cases c1 : (ns.length : Int) < 6
      · rw [if_pos c1]
        by_cases c2 : (ns.length : Int) > 1
        · rw [if_pos c2]; exact ⟨ns.length, by omega, rfl⟩
        · rw [if_neg c2]; exact ⟨1, by omega, rfl⟩
      · rw [if_neg c1]; exact ⟨6, by omega, rfl⟩
    obtain ⟨n, hn6, en⟩ := hn
    rw [en]
    refine ⟨by omega, sz _ (by omega), ?_⟩
    refine dLoop_inv (fun i ρ G' => ∃ o1, ρ = [some (.scr ns), o1] ∧ G' A.t_law_right = some (.tab "_law_right.<locals>.<lambda>") ∧ G' A.tlaw = some (.tab "law.<locals>.<lambda>")) 0 ⟨none, rfl, h1, h2⟩ (fun _ _ _ _ _ _ => trivial) (fun i dd ρ G1 hi hI K1 hK => ?_) (fun ρ G1 hI => ?_)
    · obtain ⟨o1, rfl, hT1, hT3⟩ := hI
      obtain ⟨hi1, rfl⟩ := rngD_get hi
      simp only [dRet, dRetN, dSeq, dAsg, dDrop, dIfS, dNext, dBreak, dCont, dPar, dSetL, dSetD, dFor, dVar, dC, dOp, dAndV, dOrV, dNotV, dAnd, dOr, dNot, dIf, dTest, dChain, dNil, dCons, dTup, dLst, dLstM, dStar, dNeg, dCB, dCall, dCallK, dMthT, dMth0, dLc, dYes, dISeq, dIStr, dIEnum, dIZip, dIRng1, dIRng2, dSl, dPart, dNoPart, dRaise, dDisp1, dNewD, dRevL, dRevT, dSortSet, dSortSetL, dIRng3, dGet2, dIKeys, dNewT, dSetT, dLstRg, dPar3, dLcM, dAugL, dSetdT, dDispT, dIItemsT, dIValsT, rdDInP, dFld, dSetF, dMake, dIKeysT, rdIsC, dCntC, dTupC, dSlC, dRevC, dISeqX, dMeth, dMeth0, dSetM, dNewM, lnX_t, lnX_l, srX_t, gdName, gdTup, gdCons, gdNil, dstart, dwipe, dAug, rdInt, rdSub, rdLt, rdLe, rdGt, rdGe, rdFdiv, rdMod, rdPow, at0, at1, at2, i30, i31, i32, set0, set1, set2, MO.lst.injEq, gup_same, gup_gup, ad_ii, ad_ss, ad_tt, ad_ll, mu_ii, mu_li, mu_ti, ix_t, ix_l, ix_s, ix_r, ix_w, ln_t, ln_l, ln_s, ln_w, ln_r, sr_t, sr_l, sr_s, sr_r, sl_t, sl_l, sl_s, sl_r, sl_w, tu_t, tu_l, tu_r, li_t, li_l, li_r, lm_t, lm_l, mx2, mn2, ab1, in1, is2, rdIsB, rdNotB, rdIsN, rdNotN, TD.isNon, List.map_cons, List.map_nil, List.length_cons, List.length_nil, List.replicate_succ, List.replicate_zero, List.cons_append, List.nil_append, List.append_nil, Nat.zero_add, Nat.reduceAdd, Nat.reduceSub, Nat.sub_self, Nat.add_sub_cancel, List.getElem?_cons_zero, List.getElem?_cons_succ, List.getElem?_nil, List.set_cons_zero, List.set_cons_succ, List.set_nil, Option.some.injEq, D.int.injEq, D.bl.injEq, D.str.injEq, D.ref.injEq, D.ty.injEq, D.tup.injEq, D.lst.injEq, List.cons.injEq, and_true, true_and, ex_two, ex_two', exists_eq_left', exists_eq_left, exists_and_left, exists_and_right, exists_const, exists_eq_right, exists_eq_right', Bool.not_true, Bool.not_false, if_true, if_false, Bool.false_eq_true, reduceCtorEq, false_and, and_false, decide_true, decide_false]
      refine ⟨hl, by omega, by omega, fun p l hp hd => ?_⟩
      have hne : A.t_law_right ≠ p := fun z => by rw [← z, hT1] at hp; cases hp
      have hne3 : A.tlaw ≠ p := fun z => by rw [← z, hT3] at hp; cases hp
      have hT2 : gup G1 p (.lst l) A.t_law_right = some (.tab "_law_right.<locals>.<lambda>") := by rw [gup_ne hne]; exact hT1
      have hT4 : gup G1 p (.lst l) A.tlaw = some (.tab "law.<locals>.<lambda>") := by rw [gup_ne hne3]; exact hT3
      refine ⟨0, ⟨l, gup_same, hd⟩, by omega, hT2, fun G2 u => ?_⟩
      refine ⟨_, rfl, ?_⟩
      simp only [dRet, dRetN, dSeq, dAsg, dDrop, dIfS, dNext, dBreak, dCont, dPar, dSetL, dSetD, dFor, dVar, dC, dOp, dAndV, dOrV, dNotV, dAnd, dOr, dNot, dIf, dTest, dChain, dNil, dCons, dTup, dLst, dLstM, dStar, dNeg, dCB, dCall, dCallK, dMthT, dMth0, dLc, dYes, dISeq, dIStr, dIEnum, dIZip, dIRng1, dIRng2, dSl, dPart, dNoPart, dRaise, dDisp1, dNewD, dRevL, dRevT, dSortSet, dSortSetL, dIRng3, dGet2, dIKeys, dNewT, dSetT, dLstRg, dPar3, dLcM, dAugL, dSetdT, dDispT, dIItemsT, dIValsT, rdDInP, dFld, dSetF, dMake, dIKeysT, rdIsC, dCntC, dTupC, dSlC, dRevC, dISeqX, dMeth, dMeth0, dSetM, dNewM, lnX_t, lnX_l, srX_t, gdName, gdTup, gdCons, gdNil, dstart, dwipe, dAug, rdInt, rdSub, rdLt, rdLe, rdGt, rdGe, rdFdiv, rdMod, rdPow, at0, at1, at2, i30, i31, i32, set0, set1, set2, MO.lst.injEq, gup_same, gup_gup, ad_ii, ad_ss, ad_tt, ad_ll, mu_ii, mu_li, mu_ti, ix_t, ix_l, ix_s, ix_r, ix_w, ln_t, ln_l, ln_s, ln_w, ln_r, sr_t, sr_l, sr_s, sr_r, sl_t, sl_l, sl_s, sl_r, sl_w, tu_t, tu_l, tu_r, li_t, li_l, li_r, lm_t, lm_l, mx2, mn2, ab1, in1, is2, rdIsB, rdNotB, rdIsN, rdNotN, TD.isNon, List.map_cons, List.map_nil, List.length_cons, List.length_nil, List.replicate_succ, List.replicate_zero, List.cons_append, List.nil_append, List.append_nil, Nat.zero_add, Nat.reduceAdd, Nat.reduceSub, Nat.sub_self, Nat.add_sub_cancel, List.getElem?_cons_zero, List.getElem?_cons_succ, List.getElem?_nil, List.set_cons_zero, List.set_cons_succ, List.set_nil, Option.some.injEq, D.int.injEq, D.bl.injEq, D.str.injEq, D.ref.injEq, D.ty.injEq, D.tup.injEq, D.lst.injEq, List.cons.injEq, and_true, true_and, ex_two, ex_two', exists_eq_left', exists_eq_left, exists_and_left, exists_and_right, exists_const, exists_eq_right, exists_eq_right', Bool.not_true, Bool.not_false, if_true, if_false, Bool.false_eq_true, reduceCtorEq, false_and, and_false, decide_true, decide_false]
      exact hK _ _ ⟨_, rfl, u.1 _ _ hne hT2, u.1 _ _ hne3 hT4⟩
    · obtain ⟨o1, rfl, hT1, hT3⟩ := hI
      simp only [dRet, dRetN, dSeq, dAsg, dDrop, dIfS, dNext, dBreak, dCont, dPar, dSetL, dSetD, dFor, dVar, dC, dOp, dAndV, dOrV, dNotV, dAnd, dOr, dNot, dIf, dTest, dChain, dNil, dCons, dTup, dLst, dLstM, dStar, dNeg, dCB, dCall, dCallK, dMthT, dMth0, dLc, dYes, dISeq, dIStr, dIEnum, dIZip, dIRng1, dIRng2, dSl, dPart, dNoPart, dRaise, dDisp1, dNewD, dRevL, dRevT, dSortSet, dSortSetL, dIRng3, dGet2, dIKeys, dNewT, dSetT, dLstRg, dPar3, dLcM, dAugL, dSetdT, dDispT, dIItemsT, dIValsT, rdDInP, dFld, dSetF, dMake, dIKeysT, rdIsC, dCntC, dTupC, dSlC, dRevC, dISeqX, dMeth, dMeth0, dSetM, dNewM, lnX_t, lnX_l, srX_t, gdName, gdTup, gdCons, gdNil, dstart, dwipe, dAug, rdInt, rdSub, rdLt, rdLe, rdGt, rdGe, rdFdiv, rdMod, rdPow, at0, at1, at2, i30, i31, i32, set0, set1, set2, MO.lst.injEq, gup_same, gup_gup, ad_ii, ad_ss, ad_tt, ad_ll, mu_ii, mu_li, mu_ti, ix_t, ix_l, ix_s, ix_r, ix_w, ln_t, ln_l, ln_s, ln_w, ln_r, sr_t, sr_l, sr_s, sr_r, sl_t, sl_l, sl_s, sl_r, sl_w, tu_t, tu_l, tu_r, li_t, li_l, li_r, lm_t, lm_l, mx2, mn2, ab1, in1, is2, rdIsB, rdNotB, rdIsN, rdNotN, TD.isNon, List.map_cons, List.map_nil, List.length_cons, List.length_nil, List.replicate_succ, List.replicate_zero, List.cons_append, List.nil_append, List.append_nil, Nat.zero_add, Nat.reduceAdd, Nat.reduceSub, Nat.sub_self, Nat.add_sub_cancel, List.getElem?_cons_zero, List.getElem?_cons_succ, List.getElem?_nil, List.set_cons_zero, List.set_cons_succ, List.set_nil, Option.some.injEq, D.int.injEq, D.bl.injEq, D.str.injEq, D.ref.injEq, D.ty.injEq, D.tup.injEq, D.lst.injEq, List.cons.injEq, and_true, true_and, ex_two, ex_two', exists_eq_left', exists_eq_left, exists_and_left, exists_and_right, exists_const, exists_eq_right, exists_eq_right', Bool.not_true, Bool.not_false, if_true, if_false, Bool.false_eq_true, reduceCtorEq, false_and, and_false, decide_true, decide_false]
      refine ⟨sz5 (by have := nil_fine.len; omega), fun _ _ => ?_, fun _ z => absurd nil_ord z, fun z => absurd nil_fine.len z⟩
      rw [nil_ordV]
      refine ⟨sz _ (by omega), 60, by omega, by decide +kernel, by decide +kernel, ?_⟩
      have e0 : deq (intsD []) (D.tup []) = true := by
        unfold intsD
        simp [deq, deqs]
      rw [e0]
      refine ⟨true, rfl, ?_⟩
      rw [if_pos rfl]
      refine lam_c hT3 nil_fine fun G' he => ?_
      rw [nil_tbl]
      refine ⟨sz _ (by omega), 60, by omega, by decide +kernel, by decide +kernel, ?_⟩
      rw [show deq (dueD (.bad 1)) (D.tup [D.str "bad", D.int 1]) = true from one_eq]
      exact q G'
  · exact h.elim
end K00
namespace K00
open PySem PySem.Spec PyProof.Rows L2 TD
/-! ### the head -/
def top (i : Nat) : Stmt := PySem.Challenge.pw_tollkeeper_k07_whole_texts.main.body.getD i (.Pass ⟨0, 0, 0, 0⟩)
abbrev s_is_in : Stmt := top 5
abbrev s_are_in : Stmt := top 6
abbrev s_demand : Stmt := top 7
abbrev s_is_table : Stmt := top 11
abbrev s_demand_text : Stmt := top 17
abbrev s_write_order : Stmt := top 18
abbrev s_read_order : Stmt := top 19
abbrev s_write_table : Stmt := top 20
abbrev s_integer_of : Stmt := top 21
abbrev s_read_table : Stmt := top 22
abbrev s__law_dice : Stmt := top 24
abbrev s__law_roll : Stmt := top 25
abbrev s__law_pick : Stmt := top 26
abbrev s__law_refused : Stmt := top 27
abbrev s__law_k_table : Stmt := top 28
abbrev s__law_met : Stmt := top 29
abbrev s__law_number : Stmt := top 30
abbrev s__law_order_due : Stmt := top 31
abbrev s__law_table_due : Stmt := top 32
abbrev s__law_bent : Stmt := top 33
abbrev s__law_right : Stmt := top 34
abbrev s_law : Stmt := top 35
def d_is_in : He.DefD := ⟨("is_in", none), "is_in", "is_in", defArgs s_is_in, defBody s_is_in, defScope s_is_in, [], []⟩
def d_are_in : He.DefD := ⟨("are_in", none), "are_in", "are_in", defArgs s_are_in, defBody s_are_in, defScope s_are_in, [], []⟩
def d_demand : He.DefD := ⟨("demand", none), "demand", "demand", defArgs s_demand, defBody s_demand, defScope s_demand, [], []⟩
def d_is_table : He.DefD := ⟨("is_table", none), "is_table", "is_table", defArgs s_is_table, defBody s_is_table, defScope s_is_table, [], []⟩
def d_demand_text : He.DefD := ⟨("demand_text", none), "demand_text", "demand_text", defArgs s_demand_text, defBody s_demand_text, defScope s_demand_text, [], []⟩
def d_write_order : He.DefD := ⟨("write_order", none), "write_order", "write_order", defArgs s_write_order, defBody s_write_order, defScope s_write_order, [], []⟩
def d_read_order : He.DefD := ⟨("read_order", none), "read_order", "read_order", defArgs s_read_order, defBody s_read_order, defScope s_read_order, [], []⟩
def d_write_table : He.DefD := ⟨("write_table", none), "write_table", "write_table", defArgs s_write_table, defBody s_write_table, defScope s_write_table, [], []⟩
def d_integer_of : He.DefD := ⟨("integer_of", none), "integer_of", "integer_of", defArgs s_integer_of, defBody s_integer_of, defScope s_integer_of, [], []⟩
def d_read_table : He.DefD := ⟨("read_table", none), "read_table", "read_table", defArgs s_read_table, defBody s_read_table, defScope s_read_table, [], []⟩
def d__law_dice : He.DefD := ⟨("_law_dice", none), "_law_dice", "_law_dice", defArgs s__law_dice, defBody s__law_dice, defScope s__law_dice, [], []⟩
def d__law_roll : He.DefD := ⟨("_law_roll", none), "_law_roll", "_law_roll", defArgs s__law_roll, defBody s__law_roll, defScope s__law_roll, [], []⟩
def d__law_pick : He.DefD := ⟨("_law_pick", none), "_law_pick", "_law_pick", defArgs s__law_pick, defBody s__law_pick, defScope s__law_pick, [], []⟩
def d__law_refused : He.DefD := ⟨("_law_refused", none), "_law_refused", "_law_refused", defArgs s__law_refused, defBody s__law_refused, defScope s__law_refused, [], []⟩
def d__law_k_table : He.DefD := ⟨("_law_k_table", none), "_law_k_table", "_law_k_table", defArgs s__law_k_table, defBody s__law_k_table, defScope s__law_k_table, [], []⟩
def d__law_met : He.DefD := ⟨("_law_met", none), "_law_met", "_law_met", defArgs s__law_met, defBody s__law_met, defScope s__law_met, [], []⟩
def d__law_number : He.DefD := ⟨("_law_number", none), "_law_number", "_law_number", defArgs s__law_number, defBody s__law_number, defScope s__law_number, [], []⟩
def d__law_order_due : He.DefD := ⟨("_law_order_due", none), "_law_order_due", "_law_order_due", defArgs s__law_order_due, defBody s__law_order_due, defScope s__law_order_due, [], []⟩
def d__law_table_due : He.DefD := ⟨("_law_table_due", none), "_law_table_due", "_law_table_due", defArgs s__law_table_due, defBody s__law_table_due, defScope s__law_table_due, [], []⟩
def d__law_bent : He.DefD := ⟨("_law_bent", none), "_law_bent", "_law_bent", defArgs s__law_bent, defBody s__law_bent, defScope s__law_bent, [], []⟩
def d__law_right : He.DefD := ⟨("_law_right", none), "_law_right", "_law_right", defArgs s__law_right, defBody s__law_right, defScope s__law_right, [], []⟩
def d_law : He.DefD := ⟨("law", none), "law", "law", defArgs s_law, defBody s_law, defScope s_law, [], []⟩
def fn : List He.DefD := [d_is_in, d_are_in, d_demand, d_is_table, d_demand_text, d_write_order, d_read_order, d_write_table, d_integer_of, d_read_table, d__law_dice, d__law_roll, d__law_pick, d__law_refused, d__law_k_table, d__law_met, d__law_number, d__law_order_due, d__law_table_due, d__law_bent, d__law_right, d_law]
def fa : List He.Fa := [.glo "is_in", .glo "are_in", .glo "demand", .glo "is_table", .glo "demand_text", .glo "write_order", .glo "read_order", .glo "write_table", .glo "integer_of", .glo "read_table", .glo "_law_dice", .glo "_law_roll", .glo "_law_pick", .glo "_law_refused", .glo "_law_k_table", .glo "_law_met", .glo "_law_number", .glo "_law_order_due", .glo "_law_table_due", .glo "_law_bent", .glo "_law_right", .glo "law", .int "MOST_GATES" 8, .int "MOST_TOLL" 1000, .int "MOST_CLASSES" 5, .int "MOST_VEHICLES" 6, .int "MOST_SIGNS" 1000, .str "FIGURES" "0123456789", .free "len", .free "all", .free "isinstance", .free "tuple", .free "int", .free "bool", .free "range", .free "enumerate", .free "min", .free "max", .free "abs", .free "str", .free "repr", .free "super", .free "ValueError"]
def tf : List He.Defn := [("_law_right", none), ("law", none)]
def ex (K : PySem.W.Frag) : Bool := ErrX.errB PySem.Challenge.pw_tollkeeper_k07_whole_texts .name K && ErrX.errB PySem.Challenge.pw_tollkeeper_k07_whole_texts .line K && ((He.cT K ("_law_right", none)).2 != (He.cT K ("law", none)).2)
abbrev R : PySem.W.OpenRow := PySem.W.OpenLaw.row PySem.Challenge.rw_tollkeeper_k07_whole_texts
abbrev hk : PySem.W.Hook := HeY.hookY 6 fa fn tf ex
def ob (s : PySem.W.SharedT) : He.AlX := HeY.obsY 6 fa fn tf ex (HandSHeadRun.getT s)
theorem ob_eq (s : PySem.W.SharedT) : ob s = hk.obs s.abs := HeY.obsY_eq (HandSHeadRun.getT_eq s)
def looseN : List PySem.Str := "is_in" :: "are_in" :: "demand" :: "is_table" :: "demand_text" :: "write_order" :: "read_order" :: "write_table" :: "integer_of" :: "read_table" :: "_law_dice" :: "_law_roll" :: "_law_pick" :: "_law_refused" :: "_law_k_table" :: "_law_met" :: "_law_number" :: "_law_order_due" :: "_law_table_due" :: "_law_bent" :: "_law_right" :: "TollError" :: "BadArgument" :: "BadText" :: "MOST_GATES" :: "MOST_TOLL" :: "MOST_CLASSES" :: "MOST_VEHICLES" :: "MOST_SIGNS" :: "FIGURES" :: []
theorem run (w : World) : HandSHeadRun.RunEq R (PySem.W.view R.prog [35]) hk ob 3000 looseN w := by
  intro os
  kernel_rfl
end K00
namespace K00
open PySem PySem.Spec PyProof.Rows L2 TD
theorem sc_is_in : FnScope ["value", "low", "high"] ["value", "low", "high"] (defScope s_is_in) := ⟨rfl, rfl, rfl, by decide +kernel, rfl, by decide +kernel, by decide +kernel⟩
theorem sc_are_in : FnScope ["value", "least", "most", "low", "high", "part"] ["value", "least", "most", "low", "high"] (defScope s_are_in) := ⟨rfl, rfl, rfl, by decide +kernel, rfl, by decide +kernel, by decide +kernel⟩
theorem sc_demand : FnScope ["is_good", "name"] ["is_good", "name"] (defScope s_demand) := ⟨rfl, rfl, rfl, by decide +kernel, rfl, by decide +kernel, by decide +kernel⟩
theorem sc_is_table : FnScope ["value", "at", "row"] ["value"] (defScope s_is_table) := ⟨rfl, rfl, rfl, by decide +kernel, rfl, by decide +kernel, by decide +kernel⟩
theorem sc_demand_text : FnScope ["text"] ["text"] (defScope s_demand_text) := ⟨rfl, rfl, rfl, by decide +kernel, rfl, by decide +kernel, by decide +kernel⟩
theorem sc_write_order : FnScope ["order", "kind"] ["order"] (defScope s_write_order) := ⟨rfl, rfl, rfl, by decide +kernel, rfl, by decide +kernel, by decide +kernel⟩
theorem sc_read_order : FnScope ["text", "sign", "found"] ["text"] (defScope s_read_order) := ⟨rfl, rfl, rfl, by decide +kernel, rfl, by decide +kernel, by decide +kernel⟩
theorem sc_write_table : FnScope ["table", "toll", "row"] ["table"] (defScope s_write_table) := ⟨rfl, rfl, rfl, by decide +kernel, rfl, by decide +kernel, by decide +kernel⟩
theorem sc_integer_of : FnScope ["text", "sign"] ["text"] (defScope s_integer_of) := ⟨rfl, rfl, rfl, by decide +kernel, rfl, by decide +kernel, by decide +kernel⟩
theorem sc_read_table : FnScope ["text", "lines", "found", "many", "at", "line", "word", "row"] ["text"] (defScope s_read_table) := ⟨rfl, rfl, rfl, by decide +kernel, rfl, by decide +kernel, by decide +kernel⟩
theorem sc__law_dice : FnScope ["script", "spot", "own", "mixed", "cell"] ["script", "spot"] (defScope s__law_dice) := ⟨rfl, rfl, rfl, by decide +kernel, rfl, by decide +kernel, by decide +kernel⟩
theorem sc__law_roll : FnScope ["dice", "total", "found"] ["dice", "total"] (defScope s__law_roll) := ⟨rfl, rfl, rfl, by decide +kernel, rfl, by decide +kernel, by decide +kernel⟩
theorem sc__law_pick : FnScope ["dice", "things"] ["dice", "things"] (defScope s__law_pick) := ⟨rfl, rfl, rfl, by decide +kernel, rfl, by decide +kernel, by decide +kernel⟩
theorem sc__law_refused : FnScope ["call", "e"] ["call"] (defScope s__law_refused) := ⟨rfl, rfl, rfl, by decide +kernel, rfl, by decide +kernel, by decide +kernel⟩
theorem sc__law_k_table : FnScope ["dice", "gates", "most", "end", "start"] ["dice"] (defScope s__law_k_table) := ⟨rfl, rfl, rfl, by decide +kernel, rfl, by decide +kernel, by decide +kernel⟩
theorem sc__law_met : FnScope ["call", "e"] ["call"] (defScope s__law_met) := ⟨rfl, rfl, rfl, by decide +kernel, rfl, by decide +kernel, by decide +kernel⟩
theorem sc__law_number : FnScope ["word", "sign"] ["word"] (defScope s__law_number) := ⟨rfl, rfl, rfl, by decide +kernel, rfl, by decide +kernel, by decide +kernel⟩
theorem sc__law_order_due : FnScope ["text", "sign"] ["text"] (defScope s__law_order_due) := ⟨rfl, rfl, rfl, by decide +kernel, rfl, by decide +kernel, by decide +kernel⟩
theorem sc__law_table_due : FnScope ["text", "lines", "found", "many", "at", "word", "row", "one"] ["text"] (defScope s__law_table_due) := ⟨rfl, rfl, rfl, by decide +kernel, rfl, by decide +kernel, by decide +kernel⟩
theorem sc__law_bent : FnScope ["dice", "text", "lines", "at", "line", "odd"] ["dice", "text"] (defScope s__law_bent) := ⟨rfl, rfl, rfl, by decide +kernel, rfl, by decide +kernel, by decide +kernel⟩
theorem sc__law_right : FnScope ["dice", "turn", "order", "table", "one", "two", "kind", "toll", "row", "some", "other", "bad", "odd", "told"] ["dice"] (defScope s__law_right) := ⟨rfl, rfl, rfl, by decide +kernel, rfl, by decide +kernel, by decide +kernel⟩
theorem sc_law : FnScope ["script", "spot"] ["script"] (defScope s_law) := ⟨rfl, rfl, rfl, by decide +kernel, rfl, by decide +kernel, by decide +kernel⟩
structure Top (P : Program) (K : PySem.W.Frag) (mg : PySem.Str → Option Value) where
  A : Ad
  f_is_in : Fn K mg "is_in" s_is_in ["value", "low", "high"]
  f_are_in : Fn K mg "are_in" s_are_in ["value", "least", "most", "low", "high"]
  f_demand : Fn K mg "demand" s_demand ["is_good", "name"]
  f_is_table : Fn K mg "is_table" s_is_table ["value"]
  f_demand_text : Fn K mg "demand_text" s_demand_text ["text"]
  f_write_order : Fn K mg "write_order" s_write_order ["order"]
  f_read_order : Fn K mg "read_order" s_read_order ["text"]
  f_write_table : Fn K mg "write_table" s_write_table ["table"]
  f_integer_of : Fn K mg "integer_of" s_integer_of ["text"]
  f_read_table : Fn K mg "read_table" s_read_table ["text"]
  f__law_dice : Fn K mg "_law_dice" s__law_dice ["script", "spot"]
  f__law_roll : Fn K mg "_law_roll" s__law_roll ["dice", "total"]
  f__law_pick : Fn K mg "_law_pick" s__law_pick ["dice", "things"]
  f__law_refused : Fn K mg "_law_refused" s__law_refused ["call"]
  f__law_k_table : Fn K mg "_law_k_table" s__law_k_table ["dice"]
  f__law_met : Fn K mg "_law_met" s__law_met ["call"]
  f__law_number : Fn K mg "_law_number" s__law_number ["word"]
  f__law_order_due : Fn K mg "_law_order_due" s__law_order_due ["text"]
  f__law_table_due : Fn K mg "_law_table_due" s__law_table_due ["text"]
  f__law_bent : Fn K mg "_law_bent" s__law_bent ["dice", "text"]
  f__law_right : Fn K mg "_law_right" s__law_right ["dice"]
  f_law : Fn K mg "law" s_law ["script"]
  n_len : mg "len" = none
  n_all : mg "all" = none
  n_isinstance : mg "isinstance" = none
  n_tuple : mg "tuple" = none
  n_int : mg "int" = none
  n_bool : mg "bool" = none
  n_range : mg "range" = none
  n_enumerate : mg "enumerate" = none
  n_min : mg "min" = none
  n_max : mg "max" = none
  n_abs : mg "abs" = none
  n_str : mg "str" = none
  n_repr : mg "repr" = none
  n_super : mg "super" = none
  n_ValueError : mg "ValueError" = none
  c_MOST_GATES : ∃ t, mg "MOST_GATES" = some (.int 8 t)
  c_MOST_TOLL : ∃ t, mg "MOST_TOLL" = some (.int 1000 t)
  c_MOST_CLASSES : ∃ t, mg "MOST_CLASSES" = some (.int 5 t)
  c_MOST_VEHICLES : ∃ t, mg "MOST_VEHICLES" = some (.int 6 t)
  c_MOST_SIGNS : ∃ t, mg "MOST_SIGNS" = some (.int 1000 t)
  c_FIGURES : ∃ t, mg "FIGURES" = some (.str "0123456789" t)
  fBad : Addr
  err_BadArgument : ErrX.Txt P K mg .name A.cBad fBad
  fTxt : Addr
  err_BadText : ErrX.Txt P K mg .line A.cTxt fTxt
  c_law_right : Addr
  e_law_right : f__law_right.fd.code = .ref c_law_right
  claw : Addr
  elaw : f_law.fd.code = .ref claw
section
variable {P : Program} {w : World} {K : PySem.W.Frag} {mg : PySem.Str → Option Value} {base : Heap}
theorem ok_is_in (T : Top P K mg) : FnD P w K mg base 1 T.f_is_in.f T.f_is_in.fd ["value", "low", "high"] (sp_is_in T.A) := by
  refine fnDn (N := ["value", "low", "high"]) (ds := ds_is_in T.A) T.f_is_in sc_is_in (fun zs G Q x h => len_is_in h) (fun cdv A outer s H E hr tk => ?_) (fun zs G Q x h => read_is_in h)
  unfold ds_is_in
  refine pdss_one ?_
  refine pds_ret ?_
  refine pd_and ?_ ?_
  · refine pd_callB call_isi cll_isi T.n_isinstance ?_
    refine pda_cons ?_ ?_
    · exact pd_var 0
    · refine pda_cons ?_ ?_
      · exact pd_ty T.n_int
      · exact pda_nil
  · refine pd_and ?_ ?_
    · refine pd_not ?_
      refine pd_callB call_isi cll_isi T.n_isinstance ?_
      refine pda_cons ?_ ?_
      · exact pd_var 0
      · refine pda_cons ?_ ?_
        · exact pd_ty T.n_bool
        · exact pda_nil
    · refine pd_one ?_
      refine pd_chain op_le opl_le op_le opl_le ?_ ?_ ?_
      · exact pd_var 1
      · exact pd_var 0
      · exact pd_var 2
theorem ok_are_in (T : Top P K mg) : FnD P w K mg base 2 T.f_are_in.f T.f_are_in.fd ["value", "least", "most", "low", "high"] (sp_are_in T.A) := by
  refine fnDn (N := ["value", "least", "most", "low", "high", "part"]) (ds := ds_are_in T.A) T.f_are_in sc_are_in (fun zs G Q x h => len_are_in h) (fun cdv A outer s H E hr tk => ?_) (fun zs G Q x h => read_are_in h)
  unfold ds_are_in
  refine pdss_one ?_
  refine pds_ret ?_
  refine pd_and ?_ ?_
  · refine pd_callB call_isi cll_isi T.n_isinstance ?_
    refine pda_cons ?_ ?_
    · exact pd_var 0
    · refine pda_cons ?_ ?_
      · exact pd_ty T.n_tuple
      · exact pda_nil
  · refine pd_and ?_ ?_
    · refine pd_chain op_le opl_le op_le opl_le ?_ ?_ ?_
      · exact pd_var 1
      · refine pd_callB call_len cll_len T.n_len ?_
        refine pda_cons ?_ ?_
        · exact pd_var 0
        · exact pda_nil
      · exact pd_var 2
    · refine pd_one ?_
      refine pd_callB (cr_all rfl) cll_all T.n_all ?_
      refine pda_cons ?_ ?_
      · refine pd_lc [("part", 5)] rfl sc_are_in.nd ?_ (blkOk_by (by first | rfl | with_unfolding_all rfl)) (fun sb Hb Cb clb fpb => ?_) (fun sb Hb Cb clb fpb => ?_) (fun sb Hb Cb clb fpb => ?_)
        · refine pdi_seq ?_
          exact pd_var 0
        · exact pdg_name 5 sc_are_in.nd
        · exact pdts_nil
        · refine pd_call (ok_is_in T) (hr.mono (by decide)) T.f_is_in.g T.f_is_in.F.kp T.f_is_in.b L2.takes0 ?_
          refine pda_cons ?_ ?_
          · exact pd_var 5
          · refine pda_cons ?_ ?_
            · exact pd_var 3
            · refine pda_cons ?_ ?_
              · exact pd_var 4
              · exact pda_nil
      · exact pda_nil
theorem ok_demand (T : Top P K mg) : FnD P w K mg base 2 T.f_demand.f T.f_demand.fd ["is_good", "name"] (sp_demand T.A) := by
  refine fnDn (N := ["is_good", "name"]) (ds := ds_demand T.A) T.f_demand sc_demand (fun zs G Q x h => len_demand h) (fun cdv A outer s H E hr tk => ?_) (fun zs G Q x h => read_demand h)
  unfold ds_demand
  refine pdss_one ?_
  refine pds_if ?_ ?_ ?_
  · refine pdt_not ?_
    refine pdt_val ?_
    exact pd_var 0
  · refine pdss_one ?_
    refine pds_raise (ef := .name) rfl T.err_BadArgument hr (by decide) tk ?_ rfl
    exact pd_var 1
  · exact pdss_nil
theorem ok_is_table (T : Top P K mg) : FnD P w K mg base 3 T.f_is_table.f T.f_is_table.fd ["value"] (sp_is_table T.A) := by
  refine fnDn (N := ["value", "at", "row"]) (ds := ds_is_table T.A) T.f_is_table sc_is_table (fun zs G Q x h => len_is_table h) (fun cdv A outer s H E hr tk => ?_) (fun zs G Q x h => read_is_table h)
  unfold ds_is_table
  refine pdss_cons ?_ ?_
  · refine pds_if ?_ ?_ ?_
    · refine pdt_w ?_
      refine pdw_or ?_ ?_
      · refine pdt_not ?_
        refine pdt_val ?_
        refine pd_callB call_isi cll_isi T.n_isinstance ?_
        refine pda_cons ?_ ?_
        · exact pd_var 0
        · refine pda_cons ?_ ?_
          · exact pd_ty T.n_tuple
          · exact pda_nil
      · refine pdw_or1 ?_
        refine pdt_not ?_
        refine pdt_chain op_le opl_le op_le opl_le ?_ ?_ ?_
        · exact pd_int
        · refine pd_callB call_len cll_len T.n_len ?_
          refine pda_cons ?_ ?_
          · exact pd_var 0
          · exact pda_nil
        · refine pd_op op_sub opl_sub ?_ ?_
          · exact pd_gint T.c_MOST_GATES.choose_spec
          · exact pd_int
    · refine pdss_one ?_
      refine pds_ret ?_
      exact pd_bl
    · exact pdss_nil
  · refine pdss_one ?_
    refine pds_ret ?_
    refine pd_callB (cr_all rfl) cll_all T.n_all ?_
    refine pda_cons ?_ ?_
    · refine pd_lc [("at", 1), ("row", 2)] rfl sc_is_table.nd ?_ (blkOk_by (by first | rfl | with_unfolding_all rfl)) (fun sb Hb Cb clb fpb => ?_) (fun sb Hb Cb clb fpb => ?_) (fun sb Hb Cb clb fpb => ?_)
      · refine pdi_enum T.n_enumerate ?_
        refine pda_cons ?_ ?_
        · exact pd_var 0
        · exact pda_nil
      · refine pdg_tup rfl ?_
        refine pdgs_cons ?_ ?_
        · exact pdg_name 1 sc_is_table.nd
        · refine pdgs_cons ?_ ?_
          · exact pdg_name 2 sc_is_table.nd
          · exact pdgs_nil
      · exact pdts_nil
      · refine pd_call (ok_are_in T) (hr.mono (by decide)) T.f_are_in.g T.f_are_in.F.kp T.f_are_in.b L2.takes0 ?_
        refine pda_cons ?_ ?_
        · exact pd_var 2
        · refine pda_cons ?_ ?_
          · refine pd_op op_sub opl_sub ?_ ?_
            · refine pd_callB call_len cll_len T.n_len ?_
              refine pda_cons ?_ ?_
              · exact pd_var 0
              · exact pda_nil
            · exact pd_var 1
          · refine pda_cons ?_ ?_
            · refine pd_op op_sub opl_sub ?_ ?_
              · refine pd_callB call_len cll_len T.n_len ?_
                refine pda_cons ?_ ?_
                · exact pd_var 0
                · exact pda_nil
              · exact pd_var 1
            · refine pda_cons ?_ ?_
              · exact pd_int
              · refine pda_cons ?_ ?_
                · exact pd_gint T.c_MOST_TOLL.choose_spec
                · exact pda_nil
    · exact pda_nil
theorem ok_demand_text (T : Top P K mg) : FnD P w K mg base 2 T.f_demand_text.f T.f_demand_text.fd ["text"] (sp_demand_text T.A) := by
  refine fnDn (N := ["text"]) (ds := ds_demand_text T.A) T.f_demand_text sc_demand_text (fun zs G Q x h => len_demand_text h) (fun cdv A outer s H E hr tk => ?_) (fun zs G Q x h => read_demand_text h)
  unfold ds_demand_text
  refine pdss_one ?_
  refine pds_if ?_ ?_ ?_
  · refine pdt_w ?_
    refine pdw_or ?_ ?_
    · refine pdt_not ?_
      refine pdt_val ?_
      refine pd_callB call_isi cll_isi T.n_isinstance ?_
      refine pda_cons ?_ ?_
      · exact pd_var 0
      · refine pda_cons ?_ ?_
        · exact pd_ty T.n_str
        · exact pda_nil
    · refine pdw_or1 ?_
      refine pdt_cmp op_gt opl_gt ?_ ?_
      · refine pd_callB call_len cll_len T.n_len ?_
        refine pda_cons ?_ ?_
        · exact pd_var 0
        · exact pda_nil
      · exact pd_gint T.c_MOST_SIGNS.choose_spec
  · refine pdss_one ?_
    refine pds_raise (ef := .line) rfl T.err_BadText hr (by decide) tk ?_ rfl
    exact pd_int
  · exact pdss_nil
theorem ok_write_order (T : Top P K mg) : FnD P w K mg base 3 T.f_write_order.f T.f_write_order.fd ["order"] (sp_write_order T.A) := by
  refine fnDn (N := ["order", "kind"]) (ds := ds_write_order T.A) T.f_write_order sc_write_order (fun zs G Q x h => len_write_order h) (fun cdv A outer s H E hr tk => ?_) (fun zs G Q x h => read_write_order h)
  unfold ds_write_order
  refine pdss_cons ?_ ?_
  · refine pds_expr ?_
    refine pd_call (ok_demand T) (hr.mono (by decide)) T.f_demand.g T.f_demand.F.kp T.f_demand.b tk ?_
    refine pda_cons ?_ ?_
    · refine pd_call (ok_are_in T) (hr.mono (by decide)) T.f_are_in.g T.f_are_in.F.kp T.f_are_in.b tk ?_
      refine pda_cons ?_ ?_
      · exact pd_var 0
      · refine pda_cons ?_ ?_
        · exact pd_int
        · refine pda_cons ?_ ?_
          · exact pd_gint T.c_MOST_VEHICLES.choose_spec
          · refine pda_cons ?_ ?_
            · exact pd_int
            · refine pda_cons ?_ ?_
              · refine pd_op op_sub opl_sub ?_ ?_
                · exact pd_gint T.c_MOST_CLASSES.choose_spec
                · exact pd_int
              · exact pda_nil
    · refine pda_cons ?_ ?_
      · exact pd_str
      · exact pda_nil
  · refine pdss_one ?_
    refine pds_ret ?_
    refine pd_mth PySem.F.plainAttrs_str PySem.F.slot_str_join (by rfl) mt_joinR mth_join ?_ ?_
    · exact pd_str
    · refine pda_cons ?_ ?_
      · refine pd_lc [("kind", 1)] rfl sc_write_order.nd ?_ (blkOk_by (by first | rfl | with_unfolding_all rfl)) (fun sb Hb Cb clb fpb => ?_) (fun sb Hb Cb clb fpb => ?_) (fun sb Hb Cb clb fpb => ?_)
        · refine pdi_seq ?_
          exact pd_var 0
        · exact pdg_name 1 sc_write_order.nd
        · exact pdts_nil
        · refine pd_callTy call_str_int cll_strI T.n_str ?_
          refine pda_cons ?_ ?_
          · exact pd_var 1
          · exact pda_nil
      · exact pda_nil
theorem ok_read_order (T : Top P K mg) : FnD P w K mg base 3 T.f_read_order.f T.f_read_order.fd ["text"] (sp_read_order T.A) := by
  refine fnDn (N := ["text", "sign", "found"]) (ds := ds_read_order T.A) T.f_read_order sc_read_order (fun zs G Q x h => len_read_order h) (fun cdv A outer s H E hr tk => ?_) (fun zs G Q x h => read_read_order h)
  unfold ds_read_order
  refine pdss_cons ?_ ?_
  · refine pds_expr ?_
    refine pd_call (ok_demand_text T) (hr.mono (by decide)) T.f_demand_text.g T.f_demand_text.F.kp T.f_demand_text.b tk ?_
    refine pda_cons ?_ ?_
    · exact pd_var 0
    · exact pda_nil
  · refine pdss_cons ?_ ?_
    · refine pds_set 2 sc_read_order.nd ?_
      refine pd_callTy call_tuple_of cll_tuple T.n_tuple ?_
      refine pda_cons ?_ ?_
      · refine pd_lc [("sign", 1)] rfl sc_read_order.nd ?_ (blkOk_by (by first | rfl | with_unfolding_all rfl)) (fun sb Hb Cb clb fpb => ?_) (fun sb Hb Cb clb fpb => ?_) (fun sb Hb Cb clb fpb => ?_)
        · refine pdi_str ?_
          exact pd_var 0
        · exact pdg_name 1 sc_read_order.nd
        · exact pdts_nil
        · refine pd_ifExp ?_ ?_ ?_
          · refine pdt_cmp op_in_sign opl_inS ?_ ?_ (hm := by rfl)
            · exact pd_var 1
            · exact pd_gstr T.c_FIGURES.choose_spec
          · refine pd_mth PySem.F.plainAttrs_str PySem.F.slot_str_index (by rfl) mt_idxS mth_idxS ?_ ?_
            · exact pd_gstr T.c_FIGURES.choose_spec
            · refine pda_cons ?_ ?_
              · exact pd_var 1
              · exact pda_nil
          · exact pd_gint T.c_MOST_CLASSES.choose_spec
      · exact pda_nil
    · refine pdss_cons ?_ ?_
      · refine pds_if ?_ ?_ ?_
        · refine pdt_not ?_
          refine pdt_val ?_
          refine pd_call (ok_are_in T) (hr.mono (by decide)) T.f_are_in.g T.f_are_in.F.kp T.f_are_in.b tk ?_
          refine pda_cons ?_ ?_
          · exact pd_var 2
          · refine pda_cons ?_ ?_
            · exact pd_int
            · refine pda_cons ?_ ?_
              · exact pd_gint T.c_MOST_VEHICLES.choose_spec
              · refine pda_cons ?_ ?_
                · exact pd_int
                · refine pda_cons ?_ ?_
                  · refine pd_op op_sub opl_sub ?_ ?_
                    · exact pd_gint T.c_MOST_CLASSES.choose_spec
                    · exact pd_int
                  · exact pda_nil
        · refine pdss_one ?_
          refine pds_raise (ef := .line) rfl T.err_BadText hr (by decide) tk ?_ rfl
          exact pd_int
        · exact pdss_nil
      · refine pdss_one ?_
        refine pds_ret ?_
        exact pd_var 2
theorem ok_write_table (T : Top P K mg) : FnD P w K mg base 4 T.f_write_table.f T.f_write_table.fd ["table"] (sp_write_table T.A) := by
  refine fnDn (N := ["table", "toll", "row"]) (ds := ds_write_table T.A) T.f_write_table sc_write_table (fun zs G Q x h => len_write_table h) (fun cdv A outer s H E hr tk => ?_) (fun zs G Q x h => read_write_table h)
  unfold ds_write_table
  refine pdss_cons ?_ ?_
  · refine pds_expr ?_
    refine pd_call (ok_demand T) (hr.mono (by decide)) T.f_demand.g T.f_demand.F.kp T.f_demand.b tk ?_
    refine pda_cons ?_ ?_
    · refine pd_call (ok_is_table T) (hr.mono (by decide)) T.f_is_table.g T.f_is_table.F.kp T.f_is_table.b tk ?_
      refine pda_cons ?_ ?_
      · exact pd_var 0
      · exact pda_nil
    · refine pda_cons ?_ ?_
      · exact pd_str
      · exact pda_nil
  · refine pdss_one ?_
    refine pds_ret ?_
    refine pd_mth PySem.F.plainAttrs_str PySem.F.slot_str_join (by rfl) mt_joinR mth_join ?_ ?_
    · exact pd_str
    · refine pda_cons ?_ ?_
      · refine pd_lc [("row", 2)] rfl sc_write_table.nd ?_ (blkOk_by (by first | rfl | with_unfolding_all rfl)) (fun sb Hb Cb clb fpb => ?_) (fun sb Hb Cb clb fpb => ?_) (fun sb Hb Cb clb fpb => ?_)
        · refine pdi_seq ?_
          exact pd_var 0
        · exact pdg_name 2 sc_write_table.nd
        · exact pdts_nil
        · refine pd_mth PySem.F.plainAttrs_str PySem.F.slot_str_join (by rfl) mt_joinR mth_join ?_ ?_
          · exact pd_str
          · refine pda_cons ?_ ?_
            · refine pd_lc [("toll", 1)] rfl sc_write_table.nd ?_ (blkOk_by (by first | rfl | with_unfolding_all rfl)) (fun sb Hb Cb clb fpb => ?_) (fun sb Hb Cb clb fpb => ?_) (fun sb Hb Cb clb fpb => ?_)
              · refine pdi_seq ?_
                exact pd_var 2
              · exact pdg_name 1 sc_write_table.nd
              · exact pdts_nil
              · refine pd_callTy call_str_int cll_strI T.n_str ?_
                refine pda_cons ?_ ?_
                · exact pd_var 1
                · exact pda_nil
            · exact pda_nil
      · exact pda_nil
theorem ok_integer_of (T : Top P K mg) : FnD P w K mg base 1 T.f_integer_of.f T.f_integer_of.fd ["text"] (sp_integer_of T.A) := by
  refine fnDn (N := ["text", "sign"]) (ds := ds_integer_of T.A) T.f_integer_of sc_integer_of (fun zs G Q x h => len_integer_of h) (fun cdv A outer s H E hr tk => ?_) (fun zs G Q x h => read_integer_of h)
  unfold ds_integer_of
  refine pdss_cons ?_ ?_
  · refine pds_if ?_ ?_ ?_
    · refine pdt_w ?_
      refine pdw_or ?_ ?_
      · refine pdt_cmp op_eqS opl_eqS ?_ ?_
        · exact pd_var 0
        · exact pd_str
      · refine pdw_or ?_ ?_
        · refine pdt_cmp op_gt opl_gt ?_ ?_
          · refine pd_callB call_len cll_len T.n_len ?_
            refine pda_cons ?_ ?_
            · exact pd_var 0
            · exact pda_nil
          · exact pd_int
        · refine pdw_or1 ?_
          refine pdt_not ?_
          refine pdt_val ?_
          refine pd_callB (cr_all rfl) cll_all T.n_all ?_
          refine pda_cons ?_ ?_
          · refine pd_lc [("sign", 1)] rfl sc_integer_of.nd ?_ (blkOk_by (by first | rfl | with_unfolding_all rfl)) (fun sb Hb Cb clb fpb => ?_) (fun sb Hb Cb clb fpb => ?_) (fun sb Hb Cb clb fpb => ?_)
            · refine pdi_str ?_
              exact pd_var 0
            · exact pdg_name 1 sc_integer_of.nd
            · exact pdts_nil
            · refine pd_cmp op_in_sign opl_inS ?_ ?_ (hm := by rfl)
              · exact pd_var 1
              · exact pd_gstr T.c_FIGURES.choose_spec
          · exact pda_nil
    · refine pdss_one ?_
      refine pds_ret ?_
      exact pd_non
    · exact pdss_nil
  · refine pdss_one ?_
    refine pds_ret ?_
    refine pd_ifExp ?_ ?_ ?_
    · refine pdt_cmp op_eqS opl_eqS ?_ ?_
      · refine pd_callTy call_str_int cll_strI T.n_str ?_
        refine pda_cons ?_ ?_
        · refine pd_callTy call_int_str cll_intS T.n_int ?_
          refine pda_cons ?_ ?_
          · exact pd_var 0
          · exact pda_nil
        · exact pda_nil
      · exact pd_var 0
    · refine pd_callTy call_int_str cll_intS T.n_int ?_
      refine pda_cons ?_ ?_
      · exact pd_var 0
      · exact pda_nil
    · exact pd_non
theorem ok_read_table (T : Top P K mg) : FnD P w K mg base 3 T.f_read_table.f T.f_read_table.fd ["text"] (sp_read_table T.A) := by
  refine fnDn (N := ["text", "lines", "found", "many", "at", "line", "word", "row"]) (ds := ds_read_table T.A) T.f_read_table sc_read_table (fun zs G Q x h => len_read_table h) (fun cdv A outer s H E hr tk => ?_) (fun zs G Q x h => read_read_table h)
  unfold ds_read_table
  refine pdss_cons ?_ ?_
  · refine pds_expr ?_
    refine pd_call (ok_demand_text T) (hr.mono (by decide)) T.f_demand_text.g T.f_demand_text.F.kp T.f_demand_text.b tk ?_
    refine pda_cons ?_ ?_
    · exact pd_var 0
    · exact pda_nil
  · refine pdss_cons ?_ ?_
    · refine pds_par 1 2 rfl sc_read_table.nd ?_ ?_
      · refine pd_mth PySem.F.plainAttrs_str PySem.F.slot_str_split (by rfl) mt_splitR mth_split ?_ ?_
        · exact pd_var 0
        · refine pda_cons ?_ ?_
          · exact pd_str
          · exact pda_nil
      · refine pd_lstM ?_
        exact pda_nil
    · refine pdss_cons ?_ ?_
      · refine pds_set 3 sc_read_table.nd ?_
        refine pd_callB call_len cll_len T.n_len ?_
        refine pda_cons ?_ ?_
        · refine pd_mth PySem.F.plainAttrs_str PySem.F.slot_str_split (by rfl) mt_splitR mth_split ?_ ?_
          · refine pd_ix ?_ ?_
            · exact pd_var 1
            · exact pd_int
          · refine pda_cons ?_ ?_
            · exact pd_str
            · exact pda_nil
        · exact pda_nil
      · refine pdss_cons ?_ ?_
        · refine pds_for (vs := [4, 5]) (passes_of rfl) rfl ?_ ?_ ?_
          · refine pdi_enum T.n_enumerate ?_
            refine pda_cons ?_ ?_
            · exact pd_var 1
            · exact pda_nil
          · refine pdg_tup rfl ?_
            refine pdgs_cons ?_ ?_
            · exact pdg_name 4 sc_read_table.nd
            · refine pdgs_cons ?_ ?_
              · exact pdg_name 5 sc_read_table.nd
              · exact pdgs_nil
          · refine pdss_cons ?_ ?_
            · refine pds_set 7 sc_read_table.nd ?_
              refine pd_callTy call_tuple_of cll_tuple T.n_tuple ?_
              refine pda_cons ?_ ?_
              · refine pd_lc [("word", 6)] rfl sc_read_table.nd ?_ (blkOk_by (by first | rfl | with_unfolding_all rfl)) (fun sb Hb Cb clb fpb => ?_) (fun sb Hb Cb clb fpb => ?_) (fun sb Hb Cb clb fpb => ?_)
                · refine pdi_seq ?_
                  refine pd_mth PySem.F.plainAttrs_str PySem.F.slot_str_split (by rfl) mt_splitR mth_split ?_ ?_
                  · exact pd_var 5
                  · refine pda_cons ?_ ?_
                    · exact pd_str
                    · exact pda_nil
                · exact pdg_name 6 sc_read_table.nd
                · exact pdts_nil
                · refine pd_call (ok_integer_of T) (hr.mono (by decide)) T.f_integer_of.g T.f_integer_of.F.kp T.f_integer_of.b L2.takes0 ?_
                  refine pda_cons ?_ ?_
                  · exact pd_var 6
                  · exact pda_nil
              · exact pda_nil
            · refine pdss_cons ?_ ?_
              · refine pds_if ?_ ?_ ?_
                · refine pdt_w ?_
                  refine pdw_or ?_ ?_
                  · refine pdt_cmp op_ge opl_ge ?_ ?_
                    · exact pd_var 4
                    · exact pd_var 3
                  · refine pdw_or1 ?_
                    refine pdt_not ?_
                    refine pdt_val ?_
                    refine pd_call (ok_are_in T) (hr.mono (by decide)) T.f_are_in.g T.f_are_in.F.kp T.f_are_in.b tk ?_
                    refine pda_cons ?_ ?_
                    · exact pd_var 7
                    · refine pda_cons ?_ ?_
                      · refine pd_op op_sub opl_sub ?_ ?_
                        · exact pd_var 3
                        · exact pd_var 4
                      · refine pda_cons ?_ ?_
                        · refine pd_callB (call_min2 rfl) cll_min2 T.n_min ?_
                          refine pda_cons ?_ ?_
                          · refine pd_op op_sub opl_sub ?_ ?_
                            · exact pd_var 3
                            · exact pd_var 4
                          · refine pda_cons ?_ ?_
                            · refine pd_op op_sub opl_sub ?_ ?_
                              · exact pd_gint T.c_MOST_GATES.choose_spec
                              · exact pd_int
                            · exact pda_nil
                        · refine pda_cons ?_ ?_
                          · exact pd_int
                          · refine pda_cons ?_ ?_
                            · exact pd_gint T.c_MOST_TOLL.choose_spec
                            · exact pda_nil
                · refine pdss_one ?_
                  refine pds_raise (ef := .line) rfl T.err_BadText hr (by decide) tk ?_ rfl
                  refine pd_op opr_add opl_add ?_ ?_
                  · exact pd_var 4
                  · exact pd_int
                · exact pdss_nil
              · refine pdss_one ?_
                refine pds_expr ?_
                refine pd_mth PySem.F.plainAttrs_list PySem.F.slot_list_append (by rfl) mt_append mth_append ?_ ?_
                · exact pd_var 2
                · refine pda_cons ?_ ?_
                  · exact pd_var 7
                  · exact pda_nil
        · refine pdss_cons ?_ ?_
          · refine pds_if ?_ ?_ ?_
            · refine pdt_cmp op_lt opl_lt ?_ ?_
              · refine pd_callB call_len cll_len T.n_len ?_
                refine pda_cons ?_ ?_
                · exact pd_var 2
                · exact pda_nil
              · exact pd_var 3
            · refine pdss_one ?_
              refine pds_raise (ef := .line) rfl T.err_BadText hr (by decide) tk ?_ rfl
              refine pd_op opr_add opl_add ?_ ?_
              · refine pd_callB call_len cll_len T.n_len ?_
                refine pda_cons ?_ ?_
                · exact pd_var 2
                · exact pda_nil
              · exact pd_int
            · exact pdss_nil
          · refine pdss_one ?_
            refine pds_ret ?_
            refine pd_callTy call_tuple_of cll_tuple T.n_tuple ?_
            refine pda_cons ?_ ?_
            · exact pd_var 2
            · exact pda_nil
theorem ok__law_dice (T : Top P K mg) : FnD P w K mg base 1 T.f__law_dice.f T.f__law_dice.fd ["script", "spot"] (sp__law_dice T.A) := by
  refine fnDn (N := ["script", "spot", "own", "mixed", "cell"]) (ds := ds__law_dice T.A) T.f__law_dice sc__law_dice (fun zs G Q x h => len__law_dice h) (fun cdv A outer s H E hr tk => ?_) (fun zs G Q x h => read__law_dice h)
  unfold ds__law_dice
  refine pdss_cons ?_ ?_
  · refine pds_set 2 sc__law_dice.nd ?_
    refine pd_ifExp ?_ ?_ ?_
    · refine pdt_cmp op_lt opl_lt ?_ ?_
      · exact pd_var 1
      · refine pd_callB call_len cll_len T.n_len ?_
        refine pda_cons ?_ ?_
        · exact pd_var 0
        · exact pda_nil
    · refine pd_ix ?_ ?_
      · exact pd_var 0
      · exact pd_var 1
    · refine pd_op opr_add opl_add ?_ ?_
      · refine pd_op opr_mul opl_mul ?_ ?_
        · exact pd_int
        · exact pd_var 1
      · exact pd_int
  · refine pdss_cons ?_ ?_
    · refine pds_set 3 sc__law_dice.nd ?_
      refine pd_op opr_add opl_add ?_ ?_
      · exact pd_int
      · refine pd_op opr_mul opl_mul ?_ ?_
        · exact pd_int
        · exact pd_var 1
    · refine pdss_cons ?_ ?_
      · refine pds_for (vs := [4]) (passes_of rfl) rfl ?_ ?_ ?_
        · refine pdi_seq ?_
          refine pd_op opr_add opl_add ?_ ?_
          · refine pd_slice ?_ ?_ ?_
            · exact pd_var 0
            · exact pdo_none
            · refine pdo_some ?_
              exact pd_int
          · refine pd_lst ?_
            refine pda_cons ?_ ?_
            · exact pd_var 2
            · exact pda_nil
        · exact pdg_name 4 sc__law_dice.nd
        · refine pdss_one ?_
          refine pds_set 3 sc__law_dice.nd ?_
          refine pd_op op_mod opl_mod ?_ ?_
          · refine pd_callTy call_int1 cll_int1 T.n_int ?_
            refine pda_cons ?_ ?_
            · refine pd_op opr_add opl_add ?_ ?_
              · refine pd_op opr_mul opl_mul ?_ ?_
                · exact pd_var 3
                · exact pd_int
              · refine pd_op op_mod opl_mod ?_ ?_
                · refine pd_callTy call_int1 cll_int1 T.n_int ?_
                  refine pda_cons ?_ ?_
                  · exact pd_var 4
                  · exact pda_nil
                · exact pd_int
            · exact pda_nil
          · exact pd_int
      · refine pdss_one ?_
        refine pds_ret ?_
        refine pd_lstM ?_
        refine pda_cons ?_ ?_
        · refine pd_ifExp ?_ ?_ ?_
          · refine pdt_w ?_
            refine pdw_or ?_ ?_
            · refine pdt_cmp op_lt opl_lt ?_ ?_
              · exact pd_var 2
              · exact pd_int
            · refine pdw_or1 ?_
              refine pdt_cmp op_ge opl_ge ?_ ?_
              · exact pd_var 2
              · refine pd_op op_pow opl_pow ?_ ?_
                · exact pd_int
                · exact pd_int
          · refine pd_callB call_abs cll_abs T.n_abs ?_
            refine pda_cons ?_ ?_
            · exact pd_var 2
            · exact pda_nil
          · exact pd_int
        · refine pda_cons ?_ ?_
          · exact pd_var 3
          · refine pda_cons ?_ ?_
            · exact pd_int
            · exact pda_nil
theorem ok__law_roll (T : Top P K mg) : FnD P w K mg base 1 T.f__law_roll.f T.f__law_roll.fd ["dice", "total"] (sp__law_roll T.A) := by
  refine fnDn (N := ["dice", "total", "found"]) (ds := ds__law_roll T.A) T.f__law_roll sc__law_roll (fun zs G Q x h => len__law_roll h) (fun cdv A outer s H E hr tk => ?_) (fun zs G Q x h => read__law_roll h)
  unfold ds__law_roll
  refine pdss_cons ?_ ?_
  · refine pds_if ?_ ?_ ?_
    · refine pdt_cmp op_gt opl_gt ?_ ?_
      · refine pd_ix ?_ ?_
        · exact pd_var 0
        · exact pd_int
      · exact pd_int
    · refine pdss_cons ?_ ?_
      · refine pds_set 2 sc__law_roll.nd ?_
        refine pd_op op_mod opl_mod ?_ ?_
        · refine pd_callTy call_int1 cll_int1 T.n_int ?_
          refine pda_cons ?_ ?_
          · refine pd_ix ?_ ?_
            · exact pd_var 0
            · exact pd_int
          · exact pda_nil
        · exact pd_var 1
      · refine pdss_cons ?_ ?_
        · refine pds_setL ?_ ?_ ?_
          · refine pd_op op_fdiv opl_fdiv ?_ ?_
            · refine pd_ix ?_ ?_
              · exact pd_var 0
              · exact pd_int
            · exact pd_var 1
          · exact pd_var 0
          · exact pd_int
        · refine pdss_one ?_
          refine pds_ret ?_
          exact pd_var 2
    · exact pdss_nil
  · refine pdss_cons ?_ ?_
    · refine pds_setL ?_ ?_ ?_
      · refine pd_op opr_add opl_add ?_ ?_
        · refine pd_ix ?_ ?_
          · exact pd_var 0
          · exact pd_int
        · exact pd_int
      · exact pd_var 0
      · exact pd_int
    · refine pdss_cons ?_ ?_
      · refine pds_setL ?_ ?_ ?_
        · refine pd_op op_mod opl_mod ?_ ?_
          · refine pd_callTy call_int1 cll_int1 T.n_int ?_
            refine pda_cons ?_ ?_
            · refine pd_op opr_add opl_add ?_ ?_
              · refine pd_op opr_add opl_add ?_ ?_
                · refine pd_op opr_mul opl_mul ?_ ?_
                  · refine pd_ix ?_ ?_
                    · exact pd_var 0
                    · exact pd_int
                  · exact pd_int
                · refine pd_op opr_mul opl_mul ?_ ?_
                  · refine pd_op opr_mul opl_mul ?_ ?_
                    · refine pd_ix ?_ ?_
                      · exact pd_var 0
                      · exact pd_int
                    · refine pd_ix ?_ ?_
                      · exact pd_var 0
                      · exact pd_int
                  · exact pd_int
              · exact pd_int
            · exact pda_nil
          · exact pd_int
        · exact pd_var 0
        · exact pd_int
      · refine pdss_one ?_
        refine pds_ret ?_
        refine pd_op op_mod opl_mod ?_ ?_
        · refine pd_callTy call_int1 cll_int1 T.n_int ?_
          refine pda_cons ?_ ?_
          · refine pd_op op_fdiv opl_fdiv ?_ ?_
            · refine pd_ix ?_ ?_
              · exact pd_var 0
              · exact pd_int
            · exact pd_int
          · exact pda_nil
        · exact pd_var 1
theorem ok__law_pick (T : Top P K mg) : FnD P w K mg base 2 T.f__law_pick.f T.f__law_pick.fd ["dice", "things"] (sp__law_pick T.A) := by
  refine fnDn (N := ["dice", "things"]) (ds := ds__law_pick T.A) T.f__law_pick sc__law_pick (fun zs G Q x h => len__law_pick h) (fun cdv A outer s H E hr tk => ?_) (fun zs G Q x h => read__law_pick h)
  unfold ds__law_pick
  refine pdss_one ?_
  refine pds_ret ?_
  refine pd_ix ?_ ?_
  · exact pd_var 1
  · refine pd_call (ok__law_roll T) (hr.mono (by decide)) T.f__law_roll.g T.f__law_roll.F.kp T.f__law_roll.b tk ?_
    refine pda_cons ?_ ?_
    · exact pd_var 0
    · refine pda_cons ?_ ?_
      · refine pd_callB call_len cll_len T.n_len ?_
        refine pda_cons ?_ ?_
        · exact pd_var 1
        · exact pda_nil
      · exact pda_nil
theorem ok__law_k_table (T : Top P K mg) : FnD P w K mg base 3 T.f__law_k_table.f T.f__law_k_table.fd ["dice"] (sp__law_k_table T.A) := by
  refine fnDn (N := ["dice", "gates", "most", "end", "start"]) (ds := ds__law_k_table T.A) T.f__law_k_table sc__law_k_table (fun zs G Q x h => len__law_k_table h) (fun cdv A outer s H E hr tk => ?_) (fun zs G Q x h => read__law_k_table h)
  unfold ds__law_k_table
  refine pdss_cons ?_ ?_
  · refine pds_asg (vs := [1, 2]) ?_ ?_
    · refine pd_tup ?_
      refine pda_cons ?_ ?_
      · refine pd_op opr_add opl_add ?_ ?_
        · exact pd_int
        · refine pd_call (ok__law_roll T) (hr.mono (by decide)) T.f__law_roll.g T.f__law_roll.F.kp T.f__law_roll.b tk ?_
          refine pda_cons ?_ ?_
          · exact pd_var 0
          · refine pda_cons ?_ ?_
            · exact pd_int
            · exact pda_nil
      · refine pda_cons ?_ ?_
        · refine pd_call (ok__law_pick T) (hr.mono (by decide)) T.f__law_pick.g T.f__law_pick.F.kp T.f__law_pick.b tk ?_
          refine pda_cons ?_ ?_
          · exact pd_var 0
          · refine pda_cons ?_ ?_
            · refine pd_lst ?_
              refine pda_cons ?_ ?_
              · exact pd_int
              · refine pda_cons ?_ ?_
                · exact pd_int
                · refine pda_cons ?_ ?_
                  · exact pd_int
                  · exact pda_nil
            · exact pda_nil
        · exact pda_nil
    · refine pdg_tup rfl ?_
      refine pdgs_cons ?_ ?_
      · exact pdg_name 1 sc__law_k_table.nd
      · refine pdgs_cons ?_ ?_
        · exact pdg_name 2 sc__law_k_table.nd
        · exact pdgs_nil
  · refine pdss_one ?_
    refine pds_ret ?_
    refine pd_callTy call_tuple_of cll_tuple T.n_tuple ?_
    refine pda_cons ?_ ?_
    · refine pd_lc [("start", 4)] rfl sc__law_k_table.nd ?_ (blkOk_by (by first | rfl | with_unfolding_all rfl)) (fun sb Hb Cb clb fpb => ?_) (fun sb Hb Cb clb fpb => ?_) (fun sb Hb Cb clb fpb => ?_)
      · refine pdi_range1 T.n_range ?_
        refine pda_cons ?_ ?_
        · refine pd_op op_sub opl_sub ?_ ?_
          · exact pd_var 1
          · exact pd_int
        · exact pda_nil
      · exact pdg_name 4 sc__law_k_table.nd
      · exact pdts_nil
      · refine pd_callTy call_tuple_of cll_tuple T.n_tuple ?_
        refine pda_cons ?_ ?_
        · refine pd_lc [("end", 3)] rfl sc__law_k_table.nd ?_ (blkOk_by (by first | rfl | with_unfolding_all rfl)) (fun sb Hb Cb clb fpb => ?_) (fun sb Hb Cb clb fpb => ?_) (fun sb Hb Cb clb fpb => ?_)
          · refine pdi_range1 T.n_range ?_
            refine pda_cons ?_ ?_
            · refine pd_op op_sub opl_sub ?_ ?_
              · refine pd_op op_sub opl_sub ?_ ?_
                · exact pd_var 1
                · exact pd_int
              · exact pd_var 4
            · exact pda_nil
          · exact pdg_name 3 sc__law_k_table.nd
          · exact pdts_nil
          · refine pd_call (ok__law_pick T) (hr.mono (by decide)) T.f__law_pick.g T.f__law_pick.F.kp T.f__law_pick.b L2.takes0 ?_
            refine pda_cons ?_ ?_
            · exact pd_var 0
            · refine pda_cons ?_ ?_
              · refine pd_lst ?_
                refine pda_cons ?_ ?_
                · refine pd_call (ok__law_roll T) (hr.mono (by decide)) T.f__law_roll.g T.f__law_roll.F.kp T.f__law_roll.b L2.takes0 ?_
                  refine pda_cons ?_ ?_
                  · exact pd_var 0
                  · refine pda_cons ?_ ?_
                    · refine pd_op opr_add opl_add ?_ ?_
                      · exact pd_var 2
                      · exact pd_int
                    · exact pda_nil
                · refine pda_cons ?_ ?_
                  · exact pd_var 2
                  · refine pda_cons ?_ ?_
                    · refine pd_call (ok__law_roll T) (hr.mono (by decide)) T.f__law_roll.g T.f__law_roll.F.kp T.f__law_roll.b L2.takes0 ?_
                      refine pda_cons ?_ ?_
                      · exact pd_var 0
                      · refine pda_cons ?_ ?_
                        · exact pd_int
                        · exact pda_nil
                    · exact pda_nil
              · exact pda_nil
        · exact pda_nil
    · exact pda_nil
theorem ok__law_number (T : Top P K mg) : FnD P w K mg base 1 T.f__law_number.f T.f__law_number.fd ["word"] (sp__law_number T.A) := by
  refine fnDn (N := ["word", "sign"]) (ds := ds__law_number T.A) T.f__law_number sc__law_number (fun zs G Q x h => len__law_number h) (fun cdv A outer s H E hr tk => ?_) (fun zs G Q x h => read__law_number h)
  unfold ds__law_number
  refine pdss_cons ?_ ?_
  · refine pds_if ?_ ?_ ?_
    · refine pdt_w ?_
      refine pdw_or ?_ ?_
      · refine pdt_cmp op_eqS opl_eqS ?_ ?_
        · exact pd_var 0
        · exact pd_str
      · refine pdw_or ?_ ?_
        · refine pdt_cmp op_gt opl_gt ?_ ?_
          · refine pd_callB call_len cll_len T.n_len ?_
            refine pda_cons ?_ ?_
            · exact pd_var 0
            · exact pda_nil
          · exact pd_int
        · refine pdw_or ?_ ?_
          · refine pdt_cmp (op_neD hr.units) opl_ne ?_ ?_
            · refine pd_lc [("sign", 1)] rfl sc__law_number.nd ?_ (blkOk_by (by first | rfl | with_unfolding_all rfl)) (fun sb Hb Cb clb fpb => ?_) (fun sb Hb Cb clb fpb => ?_) (fun sb Hb Cb clb fpb => ?_)
              · refine pdi_str ?_
                exact pd_var 0
              · exact pdg_name 1 sc__law_number.nd
              · refine pdts_one ?_
                refine pdt_cmp op_notIn_sign opl_ninS ?_ ?_ (hm := by rfl)
                · exact pd_var 1
                · exact pd_str
              · exact pd_var 1
            · refine pd_lst ?_
              exact pda_nil
          · refine pdw_or1 ?_
            refine pdt_w ?_
            refine pdw_and ?_ ?_
            · refine pdt_cmp op_gt opl_gt ?_ ?_
              · refine pd_callB call_len cll_len T.n_len ?_
                refine pda_cons ?_ ?_
                · exact pd_var 0
                · exact pda_nil
              · exact pd_int
            · refine pdw_and1 ?_
              refine pdt_cmp op_eqS opl_eqS ?_ ?_
              · refine pd_ix ?_ ?_
                · exact pd_var 0
                · exact pd_int
              · exact pd_str
    · refine pdss_one ?_
      refine pds_ret ?_
      refine pd_neg ?_
      exact pd_int
    · exact pdss_nil
  · refine pdss_one ?_
    refine pds_ret ?_
    refine pd_callTy call_int_str cll_intS T.n_int ?_
    refine pda_cons ?_ ?_
    · exact pd_var 0
    · exact pda_nil
theorem ok__law_order_due (T : Top P K mg) : FnD P w K mg base 1 T.f__law_order_due.f T.f__law_order_due.fd ["text"] (sp__law_order_due T.A) := by
  refine fnDn (N := ["text", "sign"]) (ds := ds__law_order_due T.A) T.f__law_order_due sc__law_order_due (fun zs G Q x h => len__law_order_due h) (fun cdv A outer s H E hr tk => ?_) (fun zs G Q x h => read__law_order_due h)
  unfold ds__law_order_due
  refine pdss_cons ?_ ?_
  · refine pds_if ?_ ?_ ?_
    · refine pdt_w ?_
      refine pdw_or ?_ ?_
      · refine pdt_cmp op_gt opl_gt ?_ ?_
        · refine pd_callB call_len cll_len T.n_len ?_
          refine pda_cons ?_ ?_
          · exact pd_var 0
          · exact pda_nil
        · exact pd_int
      · refine pdw_or1 ?_
        refine pdt_cmp (op_neD hr.units) opl_ne ?_ ?_
        · refine pd_lc [("sign", 1)] rfl sc__law_order_due.nd ?_ (blkOk_by (by first | rfl | with_unfolding_all rfl)) (fun sb Hb Cb clb fpb => ?_) (fun sb Hb Cb clb fpb => ?_) (fun sb Hb Cb clb fpb => ?_)
          · refine pdi_str ?_
            exact pd_var 0
          · exact pdg_name 1 sc__law_order_due.nd
          · refine pdts_one ?_
            refine pdt_cmp op_notIn_sign opl_ninS ?_ ?_ (hm := by rfl)
            · exact pd_var 1
            · exact pd_str
          · exact pd_var 1
        · refine pd_lst ?_
          exact pda_nil
    · refine pdss_one ?_
      refine pds_ret ?_
      refine pd_tup ?_
      refine pda_cons ?_ ?_
      · exact pd_str
      · refine pda_cons ?_ ?_
        · exact pd_int
        · exact pda_nil
    · exact pdss_nil
  · refine pdss_one ?_
    refine pds_ret ?_
    refine pd_tup ?_
    refine pda_cons ?_ ?_
    · exact pd_str
    · refine pda_cons ?_ ?_
      · refine pd_callTy call_tuple_of cll_tuple T.n_tuple ?_
        refine pda_cons ?_ ?_
        · refine pd_lc [("sign", 1)] rfl sc__law_order_due.nd ?_ (blkOk_by (by first | rfl | with_unfolding_all rfl)) (fun sb Hb Cb clb fpb => ?_) (fun sb Hb Cb clb fpb => ?_) (fun sb Hb Cb clb fpb => ?_)
          · refine pdi_str ?_
            exact pd_var 0
          · exact pdg_name 1 sc__law_order_due.nd
          · exact pdts_nil
          · refine pd_callTy call_int_str cll_intS T.n_int ?_
            refine pda_cons ?_ ?_
            · exact pd_var 1
            · exact pda_nil
        · exact pda_nil
      · exact pda_nil
theorem ok__law_table_due (T : Top P K mg) : FnD P w K mg base 2 T.f__law_table_due.f T.f__law_table_due.fd ["text"] (sp__law_table_due T.A) := by
  refine fnDn (N := ["text", "lines", "found", "many", "at", "word", "row", "one"]) (ds := ds__law_table_due T.A) T.f__law_table_due sc__law_table_due (fun zs G Q x h => len__law_table_due h) (fun cdv A outer s H E hr tk => ?_) (fun zs G Q x h => read__law_table_due h)
  unfold ds__law_table_due
  refine pdss_cons ?_ ?_
  · refine pds_par 1 2 rfl sc__law_table_due.nd ?_ ?_
    · refine pd_mth PySem.F.plainAttrs_str PySem.F.slot_str_split (by rfl) mt_splitR mth_split ?_ ?_
      · exact pd_var 0
      · refine pda_cons ?_ ?_
        · exact pd_str
        · exact pda_nil
    · refine pd_lstM ?_
      exact pda_nil
  · refine pdss_cons ?_ ?_
    · refine pds_set 3 sc__law_table_due.nd ?_
      refine pd_callB call_len cll_len T.n_len ?_
      refine pda_cons ?_ ?_
      · refine pd_mth PySem.F.plainAttrs_str PySem.F.slot_str_split (by rfl) mt_splitR mth_split ?_ ?_
        · refine pd_ix ?_ ?_
          · exact pd_var 1
          · exact pd_int
        · refine pda_cons ?_ ?_
          · exact pd_str
          · exact pda_nil
      · exact pda_nil
    · refine pdss_cons ?_ ?_
      · refine pds_for (vs := [4]) (passes_of rfl) rfl ?_ ?_ ?_
        · refine pdi_range1 T.n_range ?_
          refine pda_cons ?_ ?_
          · refine pd_callB call_len cll_len T.n_len ?_
            refine pda_cons ?_ ?_
            · exact pd_var 1
            · exact pda_nil
          · exact pda_nil
        · exact pdg_name 4 sc__law_table_due.nd
        · refine pdss_cons ?_ ?_
          · refine pds_setLc 6 [("word", 5)] rfl sc__law_table_due.nd ?_ (blkOk_by (by first | rfl | with_unfolding_all rfl)) (fun sb Hb Cb clb fpb => ?_) (fun sb Hb Cb clb fpb => ?_) (fun sb Hb Cb clb fpb => ?_) (by rfl)
            · refine pdi_seq ?_
              refine pd_mth PySem.F.plainAttrs_str PySem.F.slot_str_split (by rfl) mt_splitR mth_split ?_ ?_
              · refine pd_ix ?_ ?_
                · exact pd_var 1
                · exact pd_var 4
              · refine pda_cons ?_ ?_
                · exact pd_str
                · exact pda_nil
            · exact pdg_name 5 sc__law_table_due.nd
            · exact pdts_nil
            · refine pd_call (ok__law_number T) (hr.mono (by decide)) T.f__law_number.g T.f__law_number.F.kp T.f__law_number.b L2.takes0 ?_
              refine pda_cons ?_ ?_
              · exact pd_var 5
              · exact pda_nil
          · refine pdss_cons ?_ ?_
            · refine pds_if ?_ ?_ ?_
              · refine pdt_w ?_
                refine pdw_or ?_ ?_
                · refine pdt_cmp op_ge opl_ge ?_ ?_
                  · exact pd_var 4
                  · exact pd_var 3
                · refine pdw_or ?_ ?_
                  · refine pdt_cmp op_gt opl_gt ?_ ?_
                    · exact pd_var 3
                    · exact pd_int
                  · refine pdw_or ?_ ?_
                    · refine pdt_cmp (op_neD hr.units) opl_ne ?_ ?_
                      · refine pd_callB call_len cll_len T.n_len ?_
                        refine pda_cons ?_ ?_
                        · exact pd_var 6
                        · exact pda_nil
                      · refine pd_op op_sub opl_sub ?_ ?_
                        · exact pd_var 3
                        · exact pd_var 4
                    · refine pdw_or1 ?_
                      refine pdt_cmp (op_neD hr.units) opl_ne ?_ ?_
                      · refine pd_lc [("one", 7)] rfl sc__law_table_due.nd ?_ (blkOk_by (by first | rfl | with_unfolding_all rfl)) (fun sb Hb Cb clb fpb => ?_) (fun sb Hb Cb clb fpb => ?_) (fun sb Hb Cb clb fpb => ?_)
                        · refine pdi_seq ?_
                          exact pd_var 6
                        · exact pdg_name 7 sc__law_table_due.nd
                        · refine pdts_one ?_
                          refine pdt_not ?_
                          refine pdt_chain op_le opl_le op_le opl_le ?_ ?_ ?_
                          · exact pd_int
                          · exact pd_var 7
                          · exact pd_int
                        · exact pd_var 7
                      · refine pd_lst ?_
                        exact pda_nil
              · refine pdss_one ?_
                refine pds_ret ?_
                refine pd_tup ?_
                refine pda_cons ?_ ?_
                · exact pd_str
                · refine pda_cons ?_ ?_
                  · refine pd_op opr_add opl_add ?_ ?_
                    · exact pd_var 4
                    · exact pd_int
                  · exact pda_nil
              · exact pdss_nil
            · refine pdss_one ?_
              refine pds_expr ?_
              refine pd_mth PySem.F.plainAttrs_list PySem.F.slot_list_append (by rfl) mt_append mth_append ?_ ?_
              · exact pd_var 2
              · refine pda_cons ?_ ?_
                · refine pd_callTy call_tuple_of cll_tuple T.n_tuple ?_
                  refine pda_cons ?_ ?_
                  · exact pd_var 6
                  · exact pda_nil
                · exact pda_nil
      · refine pdss_one ?_
        refine pds_ret ?_
        refine pd_ifExp ?_ ?_ ?_
        · refine pdt_cmp (op_eqD hr.units) opl_eq ?_ ?_
          · refine pd_callB call_len cll_len T.n_len ?_
            refine pda_cons ?_ ?_
            · exact pd_var 2
            · exact pda_nil
          · exact pd_var 3
        · refine pd_tup ?_
          refine pda_cons ?_ ?_
          · exact pd_str
          · refine pda_cons ?_ ?_
            · refine pd_callTy call_tuple_of cll_tuple T.n_tuple ?_
              refine pda_cons ?_ ?_
              · exact pd_var 2
              · exact pda_nil
            · exact pda_nil
        · refine pd_tup ?_
          refine pda_cons ?_ ?_
          · exact pd_str
          · refine pda_cons ?_ ?_
            · refine pd_op opr_add opl_add ?_ ?_
              · refine pd_callB call_len cll_len T.n_len ?_
                refine pda_cons ?_ ?_
                · exact pd_var 2
                · exact pda_nil
              · exact pd_int
            · exact pda_nil
theorem ok__law_bent (T : Top P K mg) : FnD P w K mg base 3 T.f__law_bent.f T.f__law_bent.fd ["dice", "text"] (sp__law_bent T.A) := by
  refine fnDn (N := ["dice", "text", "lines", "at", "line", "odd"]) (ds := ds__law_bent T.A) T.f__law_bent sc__law_bent (fun zs G Q x h => len__law_bent h) (fun cdv A outer s H E hr tk => ?_) (fun zs G Q x h => read__law_bent h)
  unfold ds__law_bent
  refine pdss_cons ?_ ?_
  · refine pds_par 2 3 rfl sc__law_bent.nd ?_ ?_
    · refine pd_mth PySem.F.plainAttrs_str PySem.F.slot_str_split (by rfl) mt_splitR mth_split ?_ ?_
      · exact pd_var 1
      · refine pda_cons ?_ ?_
        · exact pd_str
        · exact pda_nil
    · refine pd_call (ok__law_roll T) (hr.mono (by decide)) T.f__law_roll.g T.f__law_roll.F.kp T.f__law_roll.b tk ?_
      refine pda_cons ?_ ?_
      · exact pd_var 0
      · refine pda_cons ?_ ?_
        · refine pd_op opr_add opl_add ?_ ?_
          · refine pd_callB call_len cll_len T.n_len ?_
            refine pda_cons ?_ ?_
            · exact pd_var 1
            · exact pda_nil
          · exact pd_int
        · exact pda_nil
  · refine pdss_cons ?_ ?_
    · refine pds_set 4 sc__law_bent.nd ?_
      refine pd_call (ok__law_roll T) (hr.mono (by decide)) T.f__law_roll.g T.f__law_roll.F.kp T.f__law_roll.b tk ?_
      refine pda_cons ?_ ?_
      · exact pd_var 0
      · refine pda_cons ?_ ?_
        · refine pd_callB call_len cll_len T.n_len ?_
          refine pda_cons ?_ ?_
          · exact pd_var 2
          · exact pda_nil
        · exact pda_nil
    · refine pdss_cons ?_ ?_
      · refine pds_set 5 sc__law_bent.nd ?_
        refine pd_lst ?_
        refine pda_cons ?_ ?_
        · refine pd_op opr_add opl_add ?_ ?_
          · refine pd_op opr_add opl_add ?_ ?_
            · refine pd_slice ?_ ?_ ?_
              · exact pd_var 1
              · exact pdo_none
              · refine pdo_some ?_
                exact pd_var 3
            · refine pd_call (ok__law_pick T) (hr.mono (by decide)) T.f__law_pick.g T.f__law_pick.F.kp T.f__law_pick.b tk ?_
              refine pda_cons ?_ ?_
              · exact pd_var 0
              · refine pda_cons ?_ ?_
                · refine pd_lst ?_
                  refine pda_cons ?_ ?_
                  · exact pd_str
                  · refine pda_cons ?_ ?_
                    · exact pd_str
                    · refine pda_cons ?_ ?_
                      · exact pd_str
                      · refine pda_cons ?_ ?_
                        · exact pd_str
                        · refine pda_cons ?_ ?_
                          · exact pd_str
                          · refine pda_cons ?_ ?_
                            · exact pd_str
                            · refine pda_cons ?_ ?_
                              · exact pd_str
                              · refine pda_cons ?_ ?_
                                · exact pd_str
                                · exact pda_nil
                · exact pda_nil
          · refine pd_slice ?_ ?_ ?_
            · exact pd_var 1
            · refine pdo_some ?_
              exact pd_var 3
            · exact pdo_none
        · refine pda_cons ?_ ?_
          · refine pd_op opr_add opl_add ?_ ?_
            · refine pd_slice ?_ ?_ ?_
              · exact pd_var 1
              · exact pdo_none
              · refine pdo_some ?_
                exact pd_var 3
            · refine pd_slice ?_ ?_ ?_
              · exact pd_var 1
              · refine pdo_some ?_
                refine pd_op opr_add opl_add ?_ ?_
                · exact pd_var 3
                · exact pd_int
              · exact pdo_none
          · refine pda_cons ?_ ?_
            · refine pd_op opr_add opl_add ?_ ?_
              · exact pd_var 1
              · exact pd_str
            · refine pda_cons ?_ ?_
              · refine pd_op opr_add opl_add ?_ ?_
                · exact pd_str
                · exact pd_var 1
              · refine pda_cons ?_ ?_
                · refine pd_op opr_add opl_add ?_ ?_
                  · exact pd_var 1
                  · exact pd_str
                · exact pda_nil
      · refine pdss_cons ?_ ?_
        · refine pds_set 5 sc__law_bent.nd ?_
          refine pd_op opr_add opl_add ?_ ?_
          · exact pd_var 5
          · refine pd_lst ?_
            refine pda_cons ?_ ?_
            · refine pd_mth PySem.F.plainAttrs_str PySem.F.slot_str_join (by rfl) mt_joinR mth_join ?_ ?_
              · exact pd_str
              · refine pda_cons ?_ ?_
                · refine pd_op opr_add opl_add ?_ ?_
                  · refine pd_slice ?_ ?_ ?_
                    · exact pd_var 2
                    · exact pdo_none
                    · refine pdo_some ?_
                      exact pd_var 4
                  · refine pd_slice ?_ ?_ ?_
                    · exact pd_var 2
                    · refine pdo_some ?_
                      refine pd_op opr_add opl_add ?_ ?_
                      · exact pd_var 4
                      · exact pd_int
                    · exact pdo_none
                · exact pda_nil
            · refine pda_cons ?_ ?_
              · refine pd_mth PySem.F.plainAttrs_str PySem.F.slot_str_join (by rfl) mt_joinR mth_join ?_ ?_
                · exact pd_str
                · refine pda_cons ?_ ?_
                  · refine pd_op opr_add opl_add ?_ ?_
                    · refine pd_op opr_add opl_add ?_ ?_
                      · refine pd_slice ?_ ?_ ?_
                        · exact pd_var 2
                        · exact pdo_none
                        · refine pdo_some ?_
                          exact pd_var 4
                      · refine pd_slice ?_ ?_ ?_
                        · exact pd_var 2
                        · refine pdo_some ?_
                          exact pd_var 4
                        · refine pdo_some ?_
                          refine pd_op opr_add opl_add ?_ ?_
                          · exact pd_var 4
                          · exact pd_int
                    · refine pd_slice ?_ ?_ ?_
                      · exact pd_var 2
                      · refine pdo_some ?_
                        exact pd_var 4
                      · exact pdo_none
                  · exact pda_nil
              · refine pda_cons ?_ ?_
                · refine pd_mth PySem.F.plainAttrs_str PySem.F.slot_str_join (by rfl) mt_joinR mth_join ?_ ?_
                  · exact pd_str
                  · refine pda_cons ?_ ?_
                    · refine pd_revL ?_
                      exact pd_var 2
                    · exact pda_nil
                · refine pda_cons ?_ ?_
                  · exact pd_str
                  · exact pda_nil
        · refine pdss_one ?_
          refine pds_ret ?_
          refine pd_call (ok__law_pick T) (hr.mono (by decide)) T.f__law_pick.g T.f__law_pick.F.kp T.f__law_pick.b tk ?_
          refine pda_cons ?_ ?_
          · exact pd_var 0
          · refine pda_cons ?_ ?_
            · exact pd_var 5
            · exact pda_nil
theorem ok__law_right (T : Top P K mg) (tb_law_right : LamX.TabB base mg T.c_law_right T.A.t_law_right) : FnG P w K mg base 7 T.f__law_right.f T.f__law_right.fd ["dice"] (sp__law_right T.A) := by
  refine fnGc (N := ["dice", "turn", "order", "table", "one", "two", "kind", "toll", "row", "some", "other", "bad", "odd", "told"]) (ds := ds__law_right T.A) T.f__law_right T.e_law_right sc__law_right (fun zs G Q x h => len__law_right h) (fun A outer s H E hgd hr tk => ?_) (fun zs G Q x h => read__law_right h)
  unfold ds__law_right
  refine pdss_cons ?_ ?_
  · refine pds_par 2 3 rfl sc__law_right.nd ?_ ?_
    · refine pd_callTy call_tuple_of cll_tuple T.n_tuple ?_
      refine pda_cons ?_ ?_
      · refine pd_lc [("turn", 1)] rfl sc__law_right.nd ?_ (blkOk_by (by first | rfl | with_unfolding_all rfl)) (fun sb Hb Cb clb fpb => ?_) (fun sb Hb Cb clb fpb => ?_) (fun sb Hb Cb clb fpb => ?_)
        · refine pdi_range1 T.n_range ?_
          refine pda_cons ?_ ?_
          · refine pd_call (ok__law_roll T) (hr.mono (by decide)) T.f__law_roll.g T.f__law_roll.F.kp T.f__law_roll.b tk ?_
            refine pda_cons ?_ ?_
            · exact pd_var 0
            · refine pda_cons ?_ ?_
              · exact pd_int
              · exact pda_nil
          · exact pda_nil
        · exact pdg_name 1 sc__law_right.nd
        · exact pdts_nil
        · refine pd_call (ok__law_roll T) (hr.mono (by decide)) T.f__law_roll.g T.f__law_roll.F.kp T.f__law_roll.b L2.takes0 ?_
          refine pda_cons ?_ ?_
          · exact pd_var 0
          · refine pda_cons ?_ ?_
            · exact pd_int
            · exact pda_nil
      · exact pda_nil
    · refine pd_call (ok__law_k_table T) (hr.mono (by decide)) T.f__law_k_table.g T.f__law_k_table.F.kp T.f__law_k_table.b tk ?_
      refine pda_cons ?_ ?_
      · exact pd_var 0
      · exact pda_nil
  · refine pdss_cons ?_ ?_
    · refine pds_par 4 5 rfl sc__law_right.nd ?_ ?_
      · refine pd_callK0 (ok_write_order T) (hr.mono (by decide)) T.f_write_order.g T.f_write_order.F.kp (kb_of (ks := ["order"]) 0 1 [0] T.f_write_order.F (by simp) (fun _ _ _ _ _ _ us ws hu hw => match us, ws, hu, hw with | [], [_], _, _ => rfl)) tk ?_
        refine pdk_cons ?_ ?_
        · exact pd_var 2
        · exact pdk_nil
      · refine pd_call (ok_write_table T) (hr.mono (by decide)) T.f_write_table.g T.f_write_table.F.kp T.f_write_table.b tk ?_
        refine pda_cons ?_ ?_
        · exact pd_var 3
        · exact pda_nil
    · refine pdss_cons ?_ ?_
      · refine pds_if ?_ ?_ ?_
        · refine pdt_w ?_
          refine pdw_or ?_ ?_
          · refine pdt_cmp op_neS opl_neS ?_ ?_
            · exact pd_var 4
            · refine pd_mth PySem.F.plainAttrs_str PySem.F.slot_str_join (by rfl) mt_joinR mth_join ?_ ?_
              · exact pd_str
              · refine pda_cons ?_ ?_
                · refine pd_lc [("kind", 6)] rfl sc__law_right.nd ?_ (blkOk_by (by first | rfl | with_unfolding_all rfl)) (fun sb Hb Cb clb fpb => ?_) (fun sb Hb Cb clb fpb => ?_) (fun sb Hb Cb clb fpb => ?_)
                  · refine pdi_seq ?_
                    exact pd_var 2
                  · exact pdg_name 6 sc__law_right.nd
                  · exact pdts_nil
                  · refine pd_callTy call_str_int cll_strI T.n_str ?_
                    refine pda_cons ?_ ?_
                    · exact pd_var 6
                    · exact pda_nil
                · exact pda_nil
          · refine pdw_or1 ?_
            refine pdt_cmp op_neS opl_neS ?_ ?_
            · exact pd_var 5
            · refine pd_mth PySem.F.plainAttrs_str PySem.F.slot_str_join (by rfl) mt_joinR mth_join ?_ ?_
              · exact pd_str
              · refine pda_cons ?_ ?_
                · refine pd_lc [("row", 8)] rfl sc__law_right.nd ?_ (blkOk_by (by first | rfl | with_unfolding_all rfl)) (fun sb Hb Cb clb fpb => ?_) (fun sb Hb Cb clb fpb => ?_) (fun sb Hb Cb clb fpb => ?_)
                  · refine pdi_seq ?_
                    exact pd_var 3
                  · exact pdg_name 8 sc__law_right.nd
                  · exact pdts_nil
                  · refine pd_mth PySem.F.plainAttrs_str PySem.F.slot_str_join (by rfl) mt_joinR mth_join ?_ ?_
                    · exact pd_str
                    · refine pda_cons ?_ ?_
                      · refine pd_lc [("toll", 7)] rfl sc__law_right.nd ?_ (blkOk_by (by first | rfl | with_unfolding_all rfl)) (fun sb Hb Cb clb fpb => ?_) (fun sb Hb Cb clb fpb => ?_) (fun sb Hb Cb clb fpb => ?_)
                        · refine pdi_seq ?_
                          exact pd_var 8
                        · exact pdg_name 7 sc__law_right.nd
                        · exact pdts_nil
                        · refine pd_callTy call_str_int cll_strI T.n_str ?_
                          refine pda_cons ?_ ?_
                          · exact pd_var 7
                          · exact pda_nil
                      · exact pda_nil
                · exact pda_nil
        · refine pdss_one ?_
          refine pds_ret ?_
          exact pd_bl
        · exact pdss_nil
      · refine pdss_cons ?_ ?_
        · refine pds_if ?_ ?_ ?_
          · refine pdt_w ?_
            refine pdw_or ?_ ?_
            · refine pdt_cmp (op_neD hr.units) opl_ne ?_ ?_
              · refine pd_call (ok_read_order T) (hr.mono (by decide)) T.f_read_order.g T.f_read_order.F.kp T.f_read_order.b tk ?_
                refine pda_cons ?_ ?_
                · exact pd_var 4
                · exact pda_nil
              · exact pd_var 2
            · refine pdw_or ?_ ?_
              · refine pdt_cmp (op_neD hr.units) opl_ne ?_ ?_
                · refine pd_callK0 (ok_read_table T) (hr.mono (by decide)) T.f_read_table.g T.f_read_table.F.kp (kb_of (ks := ["text"]) 0 1 [0] T.f_read_table.F (by simp) (fun _ _ _ _ _ _ us ws hu hw => match us, ws, hu, hw with | [], [_], _, _ => rfl)) tk ?_
                  refine pdk_cons ?_ ?_
                  · exact pd_var 5
                  · exact pdk_nil
                · exact pd_var 3
              · refine pdw_or ?_ ?_
                · refine pdt_cmp (op_neD hr.units) opl_ne ?_ ?_
                  · refine pd_callK0 (ok_read_order T) (hr.mono (by decide)) T.f_read_order.g T.f_read_order.F.kp (kb_of (ks := ["text"]) 0 1 [0] T.f_read_order.F (by simp) (fun _ _ _ _ _ _ us ws hu hw => match us, ws, hu, hw with | [], [_], _, _ => rfl)) tk ?_
                    refine pdk_cons ?_ ?_
                    · exact pd_var 4
                    · exact pdk_nil
                  · exact pd_var 2
                · refine pdw_or1 ?_
                  refine pdt_cmp op_neS opl_neS ?_ ?_
                  · refine pd_callK0 (ok_write_table T) (hr.mono (by decide)) T.f_write_table.g T.f_write_table.F.kp (kb_of (ks := ["table"]) 0 1 [0] T.f_write_table.F (by simp) (fun _ _ _ _ _ _ us ws hu hw => match us, ws, hu, hw with | [], [_], _, _ => rfl)) tk ?_
                    refine pdk_cons ?_ ?_
                    · exact pd_var 3
                    · exact pdk_nil
                  · exact pd_var 5
          · refine pdss_one ?_
            refine pds_ret ?_
            exact pd_bl
          · exact pdss_nil
        · refine pdss_cons ?_ ?_
          · refine pds_for (vs := [1]) (passes_of rfl) rfl ?_ ?_ ?_
            · refine pdi_range1 T.n_range ?_
              refine pda_cons ?_ ?_
              · exact pd_int
              · exact pda_nil
            · exact pdg_name 1 sc__law_right.nd
            · refine pdss_cons ?_ ?_
              · refine pds_asg (vs := [9, 10]) ?_ ?_
                · refine pd_tup ?_
                  refine pda_cons ?_ ?_
                  · refine pd_call (ok__law_bent T) (hr.mono (by decide)) T.f__law_bent.g T.f__law_bent.F.kp T.f__law_bent.b tk ?_
                    refine pda_cons ?_ ?_
                    · exact pd_var 0
                    · refine pda_cons ?_ ?_
                      · exact pd_var 4
                      · exact pda_nil
                  · refine pda_cons ?_ ?_
                    · refine pd_call (ok__law_bent T) (hr.mono (by decide)) T.f__law_bent.g T.f__law_bent.F.kp T.f__law_bent.b tk ?_
                      refine pda_cons ?_ ?_
                      · exact pd_var 0
                      · refine pda_cons ?_ ?_
                        · exact pd_var 5
                        · exact pda_nil
                    · exact pda_nil
                · refine pdg_tup rfl ?_
                  refine pdgs_cons ?_ ?_
                  · exact pdg_name 9 sc__law_right.nd
                  · refine pdgs_cons ?_ ?_
                    · exact pdg_name 10 sc__law_right.nd
                    · exact pdgs_nil
              · refine pdss_cons ?_ ?_
                · refine pds_if ?_ ?_ ?_
                  · refine pdt_cmp op_neS opl_neS ?_ ?_
                    · refine pd_callB (cr_repr hgd hr.u65) cll_repr T.n_repr ?_
                      refine pda_cons ?_ ?_
                      · refine pd_lamF (k := 4) (Ng := ["call", "e"]) T.f__law_met low_lamB rfl sc__law_met rfl (.inl rfl) (fun cdv => gives_b (ef := .line) (n := "e") T.err_BadText rfl rfl rfl (by decide) rfl rfl (by decide) (by decide) (fun _ => rfl) (fun _ => rfl) (fun _ => rfl) (fun _ => rfl) (fun _ => rfl) (fun _ => rfl)) tb_law_right rfl (hr.mono (by decide)) (LamX.lamS_by (by first | rfl | with_unfolding_all rfl)) rfl (fun _ _ _ _ _ => rfl) (by decide) (by decide) (by decide) (fun Al ol sl Hl El fl cl hr2 tk2 => ?_)
                        refine pd_call (ok_read_order T) (hr2.mono (by decide)) T.f_read_order.g T.f_read_order.F.kp T.f_read_order.b tk2 ?_
                        refine pda_cons ?_ ?_
                        · exact pd_var 9
                        · exact pda_nil
                      · exact pda_nil
                    · refine pd_callB (cr_repr hgd hr.u65) cll_repr T.n_repr ?_
                      refine pda_cons ?_ ?_
                      · refine pd_call (ok__law_order_due T) (hr.mono (by decide)) T.f__law_order_due.g T.f__law_order_due.F.kp T.f__law_order_due.b tk ?_
                        refine pda_cons ?_ ?_
                        · exact pd_var 9
                        · exact pda_nil
                      · exact pda_nil
                  · refine pdss_one ?_
                    refine pds_ret ?_
                    exact pd_bl
                  · exact pdss_nil
                · refine pdss_one ?_
                  refine pds_if ?_ ?_ ?_
                  · refine pdt_cmp op_neS opl_neS ?_ ?_
                    · refine pd_callB (cr_repr hgd hr.u65) cll_repr T.n_repr ?_
                      refine pda_cons ?_ ?_
                      · refine pd_lamF (k := 4) (Ng := ["call", "e"]) T.f__law_met low_lamB rfl sc__law_met rfl (.inl rfl) (fun cdv => gives_b (ef := .line) (n := "e") T.err_BadText rfl rfl rfl (by decide) rfl rfl (by decide) (by decide) (fun _ => rfl) (fun _ => rfl) (fun _ => rfl) (fun _ => rfl) (fun _ => rfl) (fun _ => rfl)) tb_law_right rfl (hr.mono (by decide)) (LamX.lamS_by (by first | rfl | with_unfolding_all rfl)) rfl (fun _ _ _ _ _ => rfl) (by decide) (by decide) (by decide) (fun Al ol sl Hl El fl cl hr2 tk2 => ?_)
                        refine pd_call (ok_read_table T) (hr2.mono (by decide)) T.f_read_table.g T.f_read_table.F.kp T.f_read_table.b tk2 ?_
                        refine pda_cons ?_ ?_
                        · exact pd_var 10
                        · exact pda_nil
                      · exact pda_nil
                    · refine pd_callB (cr_repr hgd hr.u65) cll_repr T.n_repr ?_
                      refine pda_cons ?_ ?_
                      · refine pd_call (ok__law_table_due T) (hr.mono (by decide)) T.f__law_table_due.g T.f__law_table_due.F.kp T.f__law_table_due.b tk ?_
                        refine pda_cons ?_ ?_
                        · exact pd_var 10
                        · exact pda_nil
                      · exact pda_nil
                  · refine pdss_one ?_
                    refine pds_ret ?_
                    exact pd_bl
                  · exact pdss_nil
          · refine pdss_cons ?_ ?_
            · refine pds_asg (vs := [11, 12]) ?_ ?_
              · refine pd_tup ?_
                refine pda_cons ?_ ?_
                · refine pd_call (ok__law_pick T) (hr.mono (by decide)) T.f__law_pick.g T.f__law_pick.F.kp T.f__law_pick.b tk ?_
                  refine pda_cons ?_ ?_
                  · exact pd_var 0
                  · refine pda_cons ?_ ?_
                    · refine pd_lst ?_
                      refine pda_cons ?_ ?_
                      · exact pd_non
                      · refine pda_cons ?_ ?_
                        · exact pd_int
                        · refine pda_cons ?_ ?_
                          · refine pd_tup ?_
                            exact pda_nil
                          · refine pda_cons ?_ ?_
                            · refine pd_lst ?_
                              refine pda_cons ?_ ?_
                              · exact pd_str
                              · exact pda_nil
                            · refine pda_cons ?_ ?_
                              · exact pd_bl
                              · refine pda_cons ?_ ?_
                                · refine pd_op opr_mulS opl_mulS ?_ ?_
                                  · exact pd_str
                                  · exact pd_int
                                · exact pda_nil
                    · exact pda_nil
                · refine pda_cons ?_ ?_
                  · refine pd_call (ok__law_pick T) (hr.mono (by decide)) T.f__law_pick.g T.f__law_pick.F.kp T.f__law_pick.b tk ?_
                    refine pda_cons ?_ ?_
                    · exact pd_var 0
                    · refine pda_cons ?_ ?_
                      · refine pd_lst ?_
                        refine pda_cons ?_ ?_
                        · exact pd_non
                        · refine pda_cons ?_ ?_
                          · refine pd_lst ?_
                            refine pda_cons ?_ ?_
                            · exact pd_int
                            · exact pda_nil
                          · refine pda_cons ?_ ?_
                            · refine pd_tup ?_
                              refine pda_cons ?_ ?_
                              · exact pd_int
                              · exact pda_nil
                            · refine pda_cons ?_ ?_
                              · refine pd_op opr_mul opl_mul ?_ ?_
                                · refine pd_tup ?_
                                  refine pda_cons ?_ ?_
                                  · exact pd_int
                                  · exact pda_nil
                                · exact pd_int
                              · refine pda_cons ?_ ?_
                                · refine pd_tup ?_
                                  refine pda_cons ?_ ?_
                                  · exact pd_bl
                                  · exact pda_nil
                                · refine pda_cons ?_ ?_
                                  · refine pd_tup ?_
                                    refine pda_cons ?_ ?_
                                    · refine pd_tup ?_
                                      refine pda_cons ?_ ?_
                                      · exact pd_int
                                      · refine pda_cons ?_ ?_
                                        · exact pd_int
                                        · exact pda_nil
                                    · exact pda_nil
                                  · refine pda_cons ?_ ?_
                                    · refine pd_tup ?_
                                      refine pda_cons ?_ ?_
                                      · refine pd_tup ?_
                                        refine pda_cons ?_ ?_
                                        · exact pd_int
                                        · exact pda_nil
                                      · exact pda_nil
                                    · exact pda_nil
                      · exact pda_nil
                  · exact pda_nil
              · refine pdg_tup rfl ?_
                refine pdgs_cons ?_ ?_
                · exact pdg_name 11 sc__law_right.nd
                · refine pdgs_cons ?_ ?_
                  · exact pdg_name 12 sc__law_right.nd
                  · exact pdgs_nil
            · refine pdss_cons ?_ ?_
              · refine pds_set 13 sc__law_right.nd ?_
                refine pd_lst ?_
                refine pda_cons ?_ ?_
                · refine pd_lamF (k := 4) (Ng := ["call", "e"]) T.f__law_met low_lamB rfl sc__law_met rfl (.inl rfl) (fun cdv => gives_b (ef := .line) (n := "e") T.err_BadText rfl rfl rfl (by decide) rfl rfl (by decide) (by decide) (fun _ => rfl) (fun _ => rfl) (fun _ => rfl) (fun _ => rfl) (fun _ => rfl) (fun _ => rfl)) tb_law_right rfl (hr.mono (by decide)) (LamX.lamS_by (by first | rfl | with_unfolding_all rfl)) rfl (fun _ _ _ _ _ => rfl) (by decide) (by decide) (by decide) (fun Al ol sl Hl El fl cl hr2 tk2 => ?_)
                  refine pd_call (ok_read_order T) (hr2.mono (by decide)) T.f_read_order.g T.f_read_order.F.kp T.f_read_order.b tk2 ?_
                  refine pda_cons ?_ ?_
                  · exact pd_var 11
                  · exact pda_nil
                · refine pda_cons ?_ ?_
                  · refine pd_lamF (k := 4) (Ng := ["call", "e"]) T.f__law_met low_lamB rfl sc__law_met rfl (.inl rfl) (fun cdv => gives_b (ef := .line) (n := "e") T.err_BadText rfl rfl rfl (by decide) rfl rfl (by decide) (by decide) (fun _ => rfl) (fun _ => rfl) (fun _ => rfl) (fun _ => rfl) (fun _ => rfl) (fun _ => rfl)) tb_law_right rfl (hr.mono (by decide)) (LamX.lamS_by (by first | rfl | with_unfolding_all rfl)) rfl (fun _ _ _ _ _ => rfl) (by decide) (by decide) (by decide) (fun Al ol sl Hl El fl cl hr2 tk2 => ?_)
                    refine pd_call (ok_read_table T) (hr2.mono (by decide)) T.f_read_table.g T.f_read_table.F.kp T.f_read_table.b tk2 ?_
                    refine pda_cons ?_ ?_
                    · exact pd_var 11
                    · exact pda_nil
                  · exact pda_nil
              · refine pdss_one ?_
                refine pds_ret ?_
                refine pd_and ?_ ?_
                · refine pd_cmp (op_eqD hr.units) opl_eq ?_ ?_
                  · exact pd_var 13
                  · refine pd_op opr_mul opl_mul ?_ ?_
                    · refine pd_lst ?_
                      refine pda_cons ?_ ?_
                      · refine pd_tup ?_
                        refine pda_cons ?_ ?_
                        · exact pd_str
                        · refine pda_cons ?_ ?_
                          · exact pd_int
                          · exact pda_nil
                      · exact pda_nil
                    · exact pd_int
                · refine pd_one ?_
                  refine pd_cmp (op_eqD hr.units) opl_eq ?_ ?_
                  · refine pd_lst ?_
                    refine pda_cons ?_ ?_
                    · refine pd_lamF (k := 4) (Ng := ["call", "e"]) T.f__law_refused low_lamA rfl sc__law_refused rfl (.inl rfl) (fun cdv => gives_a (ef := .name) (n := "e") T.err_BadArgument rfl rfl rfl (by decide) rfl rfl (by decide) (by decide) (fun _ => rfl) (fun _ => rfl) (fun _ => rfl)) tb_law_right rfl (hr.mono (by decide)) (LamX.lamS_by (by first | rfl | with_unfolding_all rfl)) rfl (fun _ _ _ _ _ => rfl) (by decide) (by decide) (by decide) (fun Al ol sl Hl El fl cl hr2 tk2 => ?_)
                      refine pd_call (ok_write_order T) (hr2.mono (by decide)) T.f_write_order.g T.f_write_order.F.kp T.f_write_order.b tk2 ?_
                      refine pda_cons ?_ ?_
                      · exact pd_var 12
                      · exact pda_nil
                    · refine pda_cons ?_ ?_
                      · refine pd_lamF (k := 4) (Ng := ["call", "e"]) T.f__law_refused low_lamA rfl sc__law_refused rfl (.inl rfl) (fun cdv => gives_a (ef := .name) (n := "e") T.err_BadArgument rfl rfl rfl (by decide) rfl rfl (by decide) (by decide) (fun _ => rfl) (fun _ => rfl) (fun _ => rfl)) tb_law_right rfl (hr.mono (by decide)) (LamX.lamS_by (by first | rfl | with_unfolding_all rfl)) rfl (fun _ _ _ _ _ => rfl) (by decide) (by decide) (by decide) (fun Al ol sl Hl El fl cl hr2 tk2 => ?_)
                        refine pd_call (ok_write_table T) (hr2.mono (by decide)) T.f_write_table.g T.f_write_table.F.kp T.f_write_table.b tk2 ?_
                        refine pda_cons ?_ ?_
                        · exact pd_var 12
                        · exact pda_nil
                      · exact pda_nil
                  · refine pd_lst ?_
                    refine pda_cons ?_ ?_
                    · exact pd_str
                    · refine pda_cons ?_ ?_
                      · exact pd_str
                      · exact pda_nil
theorem ok_law (T : Top P K mg) (tb_law_right : LamX.TabB base mg T.c_law_right T.A.t_law_right) (tblaw : LamX.TabB base mg T.claw T.A.tlaw) : FnG P w K mg base 8 T.f_law.f T.f_law.fd ["script"] (sp_law T.A) := by
  refine fnGc (N := ["script", "spot"]) (ds := ds_law T.A) T.f_law T.elaw sc_law (fun zs G Q x h => len_law h) (fun A outer s H E hgd hr tk => ?_) (fun zs G Q x h => read_law h)
  unfold ds_law
  refine pdss_cons ?_ ?_
  · refine pds_for (vs := [1]) (passes_of rfl) rfl ?_ ?_ ?_
    · refine pdi_range1 T.n_range ?_
      refine pda_cons ?_ ?_
      · refine pd_callB (call_max2 rfl) cll_max2 T.n_max ?_
        refine pda_cons ?_ ?_
        · exact pd_int
        · refine pda_cons ?_ ?_
          · refine pd_callB (call_min2 rfl) cll_min2 T.n_min ?_
            refine pda_cons ?_ ?_
            · exact pd_int
            · refine pda_cons ?_ ?_
              · refine pd_callB call_len cll_len T.n_len ?_
                refine pda_cons ?_ ?_
                · exact pd_var 0
                · exact pda_nil
              · exact pda_nil
          · exact pda_nil
      · exact pda_nil
    · exact pdg_name 1 sc_law.nd
    · refine pdss_one ?_
      refine pds_if ?_ ?_ ?_
      · refine pdt_not ?_
        refine pdt_val ?_
        refine pd_callG (ok__law_right T tb_law_right) hgd (hr.mono (by decide)) T.f__law_right.g T.f__law_right.F.kp T.f__law_right.b tk ?_
        refine pda_cons ?_ ?_
        · refine pd_call (ok__law_dice T) (hr.mono (by decide)) T.f__law_dice.g T.f__law_dice.F.kp T.f__law_dice.b tk ?_
          refine pda_cons ?_ ?_
          · exact pd_var 0
          · refine pda_cons ?_ ?_
            · exact pd_var 1
            · exact pda_nil
        · exact pda_nil
      · refine pdss_one ?_
        refine pds_ret ?_
        exact pd_bl
      · exact pdss_nil
  · refine pdss_one ?_
    refine pds_ret ?_
    refine pd_and ?_ ?_
    · refine pd_cmp (op_eqD hr.units) opl_eq ?_ ?_
      · refine pd_call (ok_read_order T) (hr.mono (by decide)) T.f_read_order.g T.f_read_order.F.kp T.f_read_order.b tk ?_
        refine pda_cons ?_ ?_
        · exact pd_str
        · exact pda_nil
      · refine pd_tup ?_
        exact pda_nil
    · refine pd_one ?_
      refine pd_cmp (op_eqD hr.units) opl_eq ?_ ?_
      · refine pd_lamF (k := 5) (Ng := ["call", "e"]) T.f__law_met low_lamB rfl sc__law_met rfl (.inl rfl) (fun cdv => gives_b (ef := .line) (n := "e") T.err_BadText rfl rfl rfl (by decide) rfl rfl (by decide) (by decide) (fun _ => rfl) (fun _ => rfl) (fun _ => rfl) (fun _ => rfl) (fun _ => rfl) (fun _ => rfl)) tblaw rfl (hr.mono (by decide)) (LamX.lamS_by (by first | rfl | with_unfolding_all rfl)) rfl (fun _ _ _ _ _ => rfl) (by decide) (by decide) (by decide) (fun Al ol sl Hl El fl cl hr2 tk2 => ?_)
        refine pd_call (ok_read_table T) (hr2.mono (by decide)) T.f_read_table.g T.f_read_table.F.kp T.f_read_table.b tk2 ?_
        refine pda_cons ?_ ?_
        · exact pd_str
        · exact pda_nil
      · refine pd_tup ?_
        refine pda_cons ?_ ?_
        · exact pd_str
        · refine pda_cons ?_ ?_
          · exact pd_int
          · exact pda_nil
end
end K00
/-! # the first state of a law -/
namespace TD
open PySem PySem.Spec PyProof.Rows L2
/-- the tables told at the start -/
def gTabs : List (Addr × PySem.Str) → GH
  | [] => fun _ => none
  | p :: r => gup (gTabs r) p.1 (.tab p.2)
theorem gTabs_at : ∀ (l : List (Addr × PySem.Str)) (a : Addr) (m : MO), gTabs l a = some m → ∃ p ∈ l, p.1 = a ∧ m = .tab p.2
  | [], _, _, h => by cases h
  | p :: r, a, m, h => by
    unfold gTabs gup at h
    split at h
    · rename_i e
      injection h with h
      exact ⟨p, List.mem_cons_self, e.symm, h.symm⟩
    · obtain ⟨q, h1, h2⟩ := gTabs_at r a m h
      exact ⟨q, List.mem_cons_of_mem _ h1, h2⟩
theorem start_at {K : PySem.W.Frag} {H : Hp} {a : Addr} {ns : List Int} {sp : SpD} {Qd : DK} {Q : VK} {TS : List (Addr × PySem.Str)} (hS : SqL K H a (ns.map V.int)) (hl : ns.length ≤ sizeLine) (hT : ∀ p ∈ TS, H p.1 = some (.tbl #[]))
    (h : sp [.scr ns] (gTabs TS) Qd fun _ _ _ => False) (hQ : ∀ z v G' H', DV K (fun _ => False) G' H' z v → Qd z G' → Q v H') : lowSp K sp [.ref a] H Q fun _ _ _ => False := by
  refine ⟨fun _ => False, [.scr ns], gTabs TS, Qd, fun _ _ _ => False, .cons (.scr ?_ hl) .nil, ⟨fun b m hb => ?_, fun _ z => z.elim⟩, h, fun z v G' H' _ _ d q => hQ z v G' H' d q, fun _ _ _ _ _ _ _ _ _ _ _ z => z⟩
  · rcases hS with hS | hS
    · refine .inl ⟨?_, id, hS⟩
      cases hg : gTabs TS a with
      | none => rfl
      | some m =>
        obtain ⟨p, hp, e, _⟩ := gTabs_at TS a m hg
        have := hT p hp
        rw [e] at this
        rcases hS with hS | ⟨o, hS⟩
        · rw [this] at hS; cases hS
        · rw [this] at hS; cases hS
    · exact .inr hS
  · obtain ⟨p, hp, e, rfl⟩ := gTabs_at TS b m hb
    have e2 := hT p hp
    rw [e] at e2
    exact ⟨#[], e2, trivial, fun pos cv z => by cases z⟩
end TD
namespace K00
open PySem PySem.Spec PyProof.Rows L2 TD
/-! ### the end -/
theorem top_of {w : World} {h : Heap} {K : PySem.W.Frag} {mg : PySem.Str → Option Value} (X : K.In h) (G : h.Ns mainGlobals mg) (c : He.SaysX fa fn [] tf ex w h K) : ∃ T : Top PySem.Challenge.pw_tollkeeper_k07_whole_texts K mg, T.c_law_right = (He.cT K ("_law_right", none)).1 ∧ T.A.t_law_right = (He.cT K ("_law_right", none)).2 ∧ T.claw = (He.cT K ("law", none)).1 ∧ T.A.tlaw = (He.cT K ("law", none)).2 ∧ T.A.t_law_right ≠ T.A.tlaw := by
  have cd : He.SaysD fa fn K := c.t.d
  obtain ⟨r2, mTab⟩ := He.ba c.more
  obtain ⟨r1, m1⟩ := He.ba r2
  have m0 := r1
  obtain ⟨f_is_in⟩ := fn_at (x := "is_in") (st := s_is_in) (ps := ["value", "low", "high"]) X G cd 0 0 rfl rfl (fun _ _ _ _ _ _ us hl => match us, hl with | [_, _, _], _ => rfl)
  obtain ⟨f_are_in⟩ := fn_at (x := "are_in") (st := s_are_in) (ps := ["value", "least", "most", "low", "high"]) X G cd 1 1 rfl rfl (fun _ _ _ _ _ _ us hl => match us, hl with | [_, _, _, _, _], _ => rfl)
  obtain ⟨f_demand⟩ := fn_at (x := "demand") (st := s_demand) (ps := ["is_good", "name"]) X G cd 2 2 rfl rfl (fun _ _ _ _ _ _ us hl => match us, hl with | [_, _], _ => rfl)
  obtain ⟨f_is_table⟩ := fn_at (x := "is_table") (st := s_is_table) (ps := ["value"]) X G cd 3 3 rfl rfl (fun _ _ _ _ _ _ us hl => match us, hl with | [_], _ => rfl)
  obtain ⟨f_demand_text⟩ := fn_at (x := "demand_text") (st := s_demand_text) (ps := ["text"]) X G cd 4 4 rfl rfl (fun _ _ _ _ _ _ us hl => match us, hl with | [_], _ => rfl)
  obtain ⟨f_write_order⟩ := fn_at (x := "write_order") (st := s_write_order) (ps := ["order"]) X G cd 5 5 rfl rfl (fun _ _ _ _ _ _ us hl => match us, hl with | [_], _ => rfl)
  obtain ⟨f_read_order⟩ := fn_at (x := "read_order") (st := s_read_order) (ps := ["text"]) X G cd 6 6 rfl rfl (fun _ _ _ _ _ _ us hl => match us, hl with | [_], _ => rfl)
  obtain ⟨f_write_table⟩ := fn_at (x := "write_table") (st := s_write_table) (ps := ["table"]) X G cd 7 7 rfl rfl (fun _ _ _ _ _ _ us hl => match us, hl with | [_], _ => rfl)
  obtain ⟨f_integer_of⟩ := fn_at (x := "integer_of") (st := s_integer_of) (ps := ["text"]) X G cd 8 8 rfl rfl (fun _ _ _ _ _ _ us hl => match us, hl with | [_], _ => rfl)
  obtain ⟨f_read_table⟩ := fn_at (x := "read_table") (st := s_read_table) (ps := ["text"]) X G cd 9 9 rfl rfl (fun _ _ _ _ _ _ us hl => match us, hl with | [_], _ => rfl)
  obtain ⟨f__law_dice⟩ := fn_at (x := "_law_dice") (st := s__law_dice) (ps := ["script", "spot"]) X G cd 10 10 rfl rfl (fun _ _ _ _ _ _ us hl => match us, hl with | [_, _], _ => rfl)
  obtain ⟨f__law_roll⟩ := fn_at (x := "_law_roll") (st := s__law_roll) (ps := ["dice", "total"]) X G cd 11 11 rfl rfl (fun _ _ _ _ _ _ us hl => match us, hl with | [_, _], _ => rfl)
  obtain ⟨f__law_pick⟩ := fn_at (x := "_law_pick") (st := s__law_pick) (ps := ["dice", "things"]) X G cd 12 12 rfl rfl (fun _ _ _ _ _ _ us hl => match us, hl with | [_, _], _ => rfl)
  obtain ⟨f__law_refused⟩ := fn_at (x := "_law_refused") (st := s__law_refused) (ps := ["call"]) X G cd 13 13 rfl rfl (fun _ _ _ _ _ _ us hl => match us, hl with | [_], _ => rfl)
  obtain ⟨f__law_k_table⟩ := fn_at (x := "_law_k_table") (st := s__law_k_table) (ps := ["dice"]) X G cd 14 14 rfl rfl (fun _ _ _ _ _ _ us hl => match us, hl with | [_], _ => rfl)
  obtain ⟨f__law_met⟩ := fn_at (x := "_law_met") (st := s__law_met) (ps := ["call"]) X G cd 15 15 rfl rfl (fun _ _ _ _ _ _ us hl => match us, hl with | [_], _ => rfl)
  obtain ⟨f__law_number⟩ := fn_at (x := "_law_number") (st := s__law_number) (ps := ["word"]) X G cd 16 16 rfl rfl (fun _ _ _ _ _ _ us hl => match us, hl with | [_], _ => rfl)
  obtain ⟨f__law_order_due⟩ := fn_at (x := "_law_order_due") (st := s__law_order_due) (ps := ["text"]) X G cd 17 17 rfl rfl (fun _ _ _ _ _ _ us hl => match us, hl with | [_], _ => rfl)
  obtain ⟨f__law_table_due⟩ := fn_at (x := "_law_table_due") (st := s__law_table_due) (ps := ["text"]) X G cd 18 18 rfl rfl (fun _ _ _ _ _ _ us hl => match us, hl with | [_], _ => rfl)
  obtain ⟨f__law_bent⟩ := fn_at (x := "_law_bent") (st := s__law_bent) (ps := ["dice", "text"]) X G cd 19 19 rfl rfl (fun _ _ _ _ _ _ us hl => match us, hl with | [_, _], _ => rfl)
  obtain ⟨f__law_right⟩ := fn_at (x := "_law_right") (st := s__law_right) (ps := ["dice"]) X G cd 20 20 rfl rfl (fun _ _ _ _ _ _ us hl => match us, hl with | [_], _ => rfl)
  obtain ⟨f_law⟩ := fn_at (x := "law") (st := s_law) (ps := ["script"]) X G cd 21 21 rfl rfl (fun _ _ _ _ _ _ us hl => match us, hl with | [_], _ => rfl)
  have k_law_right : f__law_right.fd.code = .ref (He.cT K ("_law_right", none)).1 := by
    obtain ⟨oc, od, kV, doc, pm, an, cdv, ct, osl, e, lk, hcd⟩ := f__law_right.F.ex
    obtain ⟨c0, rfl⟩ := He.codeIn_ref hcd
    have e1 : f__law_right.fd.code = .ref c0 := by rw [e] <;> rfl
    have e2 : f__law_right.f = He.ga K "_law_right" := by
      have e3 := f__law_right.g.symm.trans (He.glo_ok X G (cd.fact 20 (f := .glo "_law_right") rfl))
      injection e3 with e3
      injection e3
    have e4 : (He.cT K ("_law_right", none)).1 = c0 := He.codeOf_eq (p := ("_law_right", none)) (by show K.lookup (He.ga K "_law_right") = _; rw [← e2]; exact lk) e1
    rw [e4]
    exact e1
  have klaw : f_law.fd.code = .ref (He.cT K ("law", none)).1 := by
    obtain ⟨oc, od, kV, doc, pm, an, cdv, ct, osl, e, lk, hcd⟩ := f_law.F.ex
    obtain ⟨c0, rfl⟩ := He.codeIn_ref hcd
    have e1 : f_law.fd.code = .ref c0 := by rw [e] <;> rfl
    have e2 : f_law.f = He.ga K "law" := by
      have e3 := f_law.g.symm.trans (He.glo_ok X G (cd.fact 21 (f := .glo "law") rfl))
      injection e3 with e3
      injection e3
    have e4 : (He.cT K ("law", none)).1 = c0 := He.codeOf_eq (p := ("law", none)) (by show K.lookup (He.ga K "law") = _; rw [← e2]; exact lk) e1
    rw [e4]
    exact e1
  exact ⟨⟨{ cBad := He.ga K "BadArgument", cNot := He.ga K "NotPossible", cTxt := He.ga K "BadText", t_law_right := (He.cT K ("_law_right", none)).2, tlaw := (He.cT K ("law", none)).2 }, f_is_in, f_are_in, f_demand, f_is_table, f_demand_text, f_write_order, f_read_order, f_write_table, f_integer_of, f_read_table, f__law_dice, f__law_roll, f__law_pick, f__law_refused, f__law_k_table, f__law_met, f__law_number, f__law_order_due, f__law_table_due, f__law_bent, f__law_right, f_law, He.free_ok X G (cd.fact 28 (f := .free "len") rfl), He.free_ok X G (cd.fact 29 (f := .free "all") rfl), He.free_ok X G (cd.fact 30 (f := .free "isinstance") rfl), He.free_ok X G (cd.fact 31 (f := .free "tuple") rfl), He.free_ok X G (cd.fact 32 (f := .free "int") rfl), He.free_ok X G (cd.fact 33 (f := .free "bool") rfl), He.free_ok X G (cd.fact 34 (f := .free "range") rfl), He.free_ok X G (cd.fact 35 (f := .free "enumerate") rfl), He.free_ok X G (cd.fact 36 (f := .free "min") rfl), He.free_ok X G (cd.fact 37 (f := .free "max") rfl), He.free_ok X G (cd.fact 38 (f := .free "abs") rfl), He.free_ok X G (cd.fact 39 (f := .free "str") rfl), He.free_ok X G (cd.fact 40 (f := .free "repr") rfl), He.free_ok X G (cd.fact 41 (f := .free "super") rfl), He.free_ok X G (cd.fact 42 (f := .free "ValueError") rfl), He.int_ok X G (cd.fact 22 (f := .int "MOST_GATES" 8) rfl), He.int_ok X G (cd.fact 23 (f := .int "MOST_TOLL" 1000) rfl), He.int_ok X G (cd.fact 24 (f := .int "MOST_CLASSES" 5) rfl), He.int_ok X G (cd.fact 25 (f := .int "MOST_VEHICLES" 6) rfl), He.int_ok X G (cd.fact 26 (f := .int "MOST_SIGNS" 1000) rfl), He.str_ok X G (cd.fact 27 (f := .str "FIGURES" "0123456789") rfl), He.ma K (He.ga K "BadArgument") "__init__", ErrX.errB_ok X G m0, He.ma K (He.ga K "BadText") "__init__", ErrX.errB_ok X G m1, (He.cT K ("_law_right", none)).1, k_law_right, (He.cT K ("law", none)).1, klaw⟩, rfl, rfl, rfl, rfl, (by simpa using mTab)⟩
theorem law_at {w : World} {mg : PySem.Str → Option Value} {fa' : Addr} {h : Heap} {K : PySem.W.Frag} (X : K.In h) (G : h.Ns mainGlobals mg) (c : He.SaysX fa fn [] tf ex w h K) (hmg : mg ("law" : PySem.Str) = some (.ref fa')) :
    TD.LawG PySem.Challenge.rw_tollkeeper_k07_whole_texts w K 8 63 "script" mg fa' h := by
  obtain ⟨T, hc_law_right, hA_law_right, hclaw, hAlaw, hne⟩ := top_of X G c
  have ef : T.f_law.f = fa' := by
    have e3 := T.f_law.g.symm.trans hmg
    injection e3 with e3
    injection e3
  subst ef
  have mem : ∀ p ∈ tf.map (He.cT K), ∃ q ∈ tf, p = He.cT K q := fun p hp => by
    obtain ⟨q, hq, rfl⟩ := List.mem_map.mp hp
    exact ⟨q, hq, rfl⟩
  refine ⟨T.f_law.fd, tf.map (He.cT K), sp_law T.A, fun p hp => ?_, fun p hp => ?_, fun p hp => ?_, fun s u => by
    obtain ⟨oc, od, kV, doc, pm, an, cdv, ct, osl, e, lk, hcd⟩ := T.f_law.F.ex
    rw [e]
    exact BindsTo.of_eq rfl, fun H a ns hl hb hT hS => ?_, fun base KB GB tb => ?_⟩
  · obtain ⟨q, hq, rfl⟩ := mem p hp
    exact c.empty q hq
  · obtain ⟨q, hq, rfl⟩ := mem p hp
    exact c.out q hq
  · obtain ⟨q, hq, rfl⟩ := mem p hp
    exact PySem.W.codeHd_of_K X (c.hd q hq)
  · refine start_at (TS := [((He.cT K ("_law_right", none)).2, "_law_right.<locals>.<lambda>"), ((He.cT K ("law", none)).2, "law.<locals>.<lambda>")]) (Qd := fun z _ => z = .bl true) hS (Nat.le_trans hl (sz 63 (by decide))) (fun p hp => ?_) ?_ (fun z v G' H' d q => by subst q; cases d; rfl)
    · simp only [List.mem_cons, List.not_mem_nil, or_false] at hp; rcases hp with rfl | rfl
      all_goals exact hT _ (List.mem_map_of_mem (by decide))
    · exact ⟨hl, by rw [hA_law_right]; exact gup_same, by rw [hAlaw]; exact (gup_ne (by rw [← hAlaw, ← hA_law_right]; exact Ne.symm hne)).trans gup_same, fun _ => rfl⟩
  · exact ok_law T (by rw [hc_law_right, hA_law_right]; exact tb (He.cT K ("_law_right", none)) (List.mem_map_of_mem (by decide))) (by rw [hclaw, hAlaw]; exact tb (He.cT K ("law", none)) (List.mem_map_of_mem (by decide)))
end K00
open PySem PySem.W PySem.Calls PyProof.Rows
theorem PySem.Challenge.cw_tollkeeper_k07_whole_texts_holds : PySem.Challenge.rw_tollkeeper_k07_whole_texts.Holds := by
  w_on; o_law
  refine HandSHeadRun.head_any (r := OpenLaw.row PySem.Challenge.rw_tollkeeper_k07_whole_texts) (q := view (OpenLaw.row PySem.Challenge.rw_tollkeeper_k07_whole_texts).prog [35]) (H := K00.hk) (ob := K00.ob) (M := 3000) (loose := K00.looseN) (d := HandSHeadRun.topDef (OpenLaw.row PySem.Challenge.rw_tollkeeper_k07_whole_texts).prog 35) (kwd := []) K00.ob_eq
    (by kernel_rfl) (fun s => by kernel_rfl) K00.run (by kernel_rfl) (by kernel_rfl) (by kernel_rfl) (by rfl) (by first | assumption | decide +kernel) (by decide +kernel) ⟨rfl, rfl, rfl, rfl, rfl, by decide +kernel⟩ ?hw ?hc
  case hw => w_witness2
  case hc =>
    refine TD.walkG (l := PySem.Challenge.rw_tollkeeper_k07_whole_texts) (n := 63) (k := 8) (x := "script") rfl (by decide) (by kernel_rfl) ⟨rfl, by decide, by decide⟩ ?F
    intro w mg fa' h Y G hmg0
    obtain ⟨K, KX, c⟩ := Y
    have hmg : mg ("law" : PySem.Str) = some (.ref fa') := by
      have e : (HandSHeadRun.topDef (OpenLaw.row PySem.Challenge.rw_tollkeeper_k07_whole_texts).prog 35).name = ("law" : PySem.Str) := by kernel_rfl
      rw [← e]
      exact hmg0
    exact ⟨K, KX, K00.law_at KX G c hmg⟩
