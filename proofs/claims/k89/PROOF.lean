import PyProof.Rows.All
import Wide.All
import OpenK.AllK
import Wide.FinOn
import HandS.ForMost
import HandS.ForExc
import HandS.EndBits
import HandS.Wide
import HandS.IsInst
import HandS.Defaults
import HandS.ClsMeth
import HandS.CallSlots
import PyProof.MaxThree
import PySem.Challenge.RW_numbersenough_k89_windows_for_lifetimes
set_option Elab.async false
set_option linter.all false
set_option maxRecDepth 100000
set_option maxHeartbeats 4000000
/-! Part 0: data as values, who owns what, and readings by functions of data. -/
namespace Y
open PySem L2

/-- data: what a value stands for. The flag of a list, an object, a dict: it is owned here and may be changed. -/
inductive D where
  | unk | non | bl (b : Bool) | int (i : Int) | str (s : Str)
  | tup (xs : List D) | lst (o : Bool) (xs : List D)
  | obj (o : Bool) (c : Nat) (ns : List Nat) (xs : List D)
  | dic (o : Bool) (ks : List Key) (xs : List D)
  /-- a list that is only read: the script -/
  | scr (xs : List D)
mutual
def D.frz : D → Bool
  | .unk => false
  | .tup xs => D.frzs xs
  | .lst o xs => !o && D.frzs xs
  | .obj o _ _ xs => !o && D.frzs xs
  | .dic o _ xs => !o && D.frzs xs
  | .scr xs => D.frzs xs
  | _ => true
def D.frzs : List D → Bool
  | [] => true
  | d :: r => D.frz d && D.frzs r
end
mutual
def D.fr : D → D
  | .tup xs => .tup (D.frs xs)
  | .lst _ xs => .lst false (D.frs xs)
  | .obj _ c ns xs => .obj false c ns (D.frs xs)
  | .dic _ ks xs => .dic false ks (D.frs xs)
  | .scr xs => .scr (D.frs xs)
  | d => d
def D.frs : List D → List D
  | [] => []
  | d :: r => D.fr d :: D.frs r
end

structure Th where
  K : PySem.W.Frag
  /-- where a class stands -/
  cA : Nat → Addr
  /-- attributes by number; those of a class -/
  nm : Nat → Str
  fl : Nat → List Nat
  top : Nat
  inj : ∀ i j, i < top → j < top → nm i = nm j → i = j
  lt : ∀ c f, f ∈ fl c → f < top
/-- what is known of a class -/
structure CF (θ : Th) (c : Nat) : Prop where
  cls : Cls θ.K (θ.cA c)
  no : ∀ f ∈ θ.fl c, NoAttr θ.K (θ.cA c) (θ.nm f)
/-- an instance's attributes are those of its class -/
structure OF (θ : Th) (c : Nat) (ns : List Nat) : Prop where
  cf : CF θ c
  ns : ∀ f ∈ ns, f ∈ θ.fl c
inductive Lab where
  | no | fz | at (p : List Nat)
abbrev LM := Addr → Lab

mutual
inductive Own (θ : Th) (L : LM) (H : Hp) : Option (List Nat) → V → D → Prop
  | unk {π v} : Own θ L H π v .unk
  | non {π} : Own θ L H π .non .non
  | bl {π b} : Own θ L H π (.bl b) (.bl b)
  | int {π i} : Own θ L H π (.int i) (.int i)
  | str {π s} : Own θ L H π (.str s) (.str s)
  | tup {π a vs ds} : L a = .fz → H a = some (.tup vs) → Owns θ L H none 0 vs ds → Own θ L H π (.ref a) (.tup ds)
  | lstF {π a vs ds} : L a = .fz → H a = some (.lst vs) → Owns θ L H none 0 vs ds → Own θ L H π (.ref a) (.lst false ds)
  | lstO {p a vs ds} : L a = .at p → H a = some (.lst vs) → Owns θ L H (some p) 0 vs ds → Own θ L H (some p) (.ref a) (.lst true ds)
  | objF {π a dx fs c ns ds} : OF θ c ns → L a = .fz → H a = some (.ins (θ.cA c) dx fs) → fs.map (·.1) = ns.map θ.nm → Owns θ L H none 0 (fs.map (·.2)) ds → Own θ L H π (.ref a) (.obj false c ns ds)
  | objO {p a dx fs c ns ds} : OF θ c ns → L a = .at p → H a = some (.ins (θ.cA c) dx fs) → fs.map (·.1) = ns.map θ.nm → Owns θ L H (some p) 0 (fs.map (·.2)) ds → Own θ L H (some p) (.ref a) (.obj true c ns ds)
  | dicF {π a kvs ks ds} : L a = .fz → H a = some (.dK kvs) → kvs.map (·.1) = ks → Owns θ L H none 0 (kvs.map (·.2)) ds → Own θ L H π (.ref a) (.dic false ks ds)
  | dicO {p a kvs ks ds} : L a = .at p → H a = some (.dK kvs) → kvs.map (·.1) = ks → Owns θ L H (some p) 0 (kvs.map (·.2)) ds → Own θ L H (some p) (.ref a) (.dic true ks ds)
  | tupK {π a vs ds o its n} : θ.K.lookup a = some o → o.cls = .type "tuple" → o.data = .seq its n → its.size ≤ sizeLine → Vals vs its.toList → Owns θ L H none 0 vs ds → Own θ L H π (.ref a) (.tup ds)
  | scr {π a vs ds} : L a = .fz → Rd H a (.lst vs) → Owns θ L H none 0 vs ds → Own θ L H π (.ref a) (.scr ds)
  | scrK {π a vs ds o its n} : θ.K.lookup a = some o → o.cls = .type "list" → o.dict = none → o.data = .seq its n → its.size ≤ sizeLine → Vals vs its.toList → Owns θ L H none 0 vs ds → Own θ L H π (.ref a) (.scr ds)
inductive Owns (θ : Th) (L : LM) (H : Hp) : Option (List Nat) → Nat → List V → List D → Prop
  | nil {π k} : Owns θ L H π k [] []
  | cons {π k v d vs ds} : Own θ L H (π.map (· ++ [k])) v d → Owns θ L H π (k + 1) vs ds → Owns θ L H π k (v :: vs) (d :: ds)
end

/-- how a path's labels and objects are carried over -/
def PT (L : LM) (H : Hp) (L' : LM) (H' : Hp) : Option (List Nat) → Option (List Nat) → Prop
  | none, _ => True
  | some ρ, some ρ' => ∀ a τ, L a = .at (ρ ++ τ) → L' a = .at (ρ' ++ τ) ∧ ∀ o, H a = some o → H' a = some o
  | some _, none => False
theorem PT.child {L : LM} {H : Hp} {L' : LM} {H' : Hp} {π π' : Option (List Nat)} (h : PT L H L' H' π π') (k : Nat) : PT L H L' H' (π.map (· ++ [k])) (π'.map (· ++ [k])) := by
  cases π with
  | none => trivial
  | some ρ =>
    cases π' with
    | none => exact h.elim
    | some ρ' =>
      intro a τ e
      have e2 : L a = .at (ρ ++ ([k] ++ τ)) := by rw [e, List.append_assoc]
      have := h a ([k] ++ τ) e2
      rw [List.append_assoc]
      exact this
def FZ (L : LM) (H : Hp) (L' : LM) (H' : Hp) : Prop := ∀ a, L a = .fz → L' a = .fz ∧ ∀ o, H a = some o → H' a = some o
theorem rd_tr {L : LM} {H : Hp} {L' : LM} {H' : Hp} {a : Addr} {u : HO} (z : FZ L H L' H') (e : L a = .fz) (h : Rd H a u) : Rd H' a u := by
  rcases h with h | ⟨o, h⟩
  · exact .inl ((z a e).2 _ h)
  · exact .inr ⟨o, (z a e).2 _ h⟩
section
variable {θ : Th} {L L' : LM} {H H' : Hp}
theorem Own.tr (z : FZ L H L' H') {π : Option (List Nat)} {v : V} {d : D} (h : Own θ L H π v d) : ∀ π', PT L H L' H' π π' → Own θ L' H' π' v d := by
  refine Own.rec (motive_1 := fun π v d _ => ∀ π', PT L H L' H' π π' → Own θ L' H' π' v d) (motive_2 := fun π k vs ds _ => ∀ π', PT L H L' H' π π' → Owns θ L' H' π' k vs ds)
    ?_ ?_ ?_ ?_ ?_ ?_ ?_ ?_ ?_ ?_ ?_ ?_ ?_ ?_ ?_ ?_ ?_ h
  · intro π v π' _; exact .unk
  · intro π π' _; exact .non
  · intro π b π' _; exact .bl
  · intro π b π' _; exact .int
  · intro π b π' _; exact .str
  · intro π a vs ds e r _ ih π' _; exact .tup (z a e).1 ((z a e).2 _ r) (ih none trivial)
  · intro π a vs ds e r _ ih π' _; exact .lstF (z a e).1 ((z a e).2 _ r) (ih none trivial)
  · intro p a vs ds e r _ ih π' hp
    cases π' with
    | none => exact hp.elim
    | some ρ' =>
      have := hp a [] (by rw [List.append_nil]; exact e)
      rw [List.append_nil] at this
      exact .lstO this.1 (this.2 _ r) (ih _ hp)
  · intro π a dx fs c ns ds cf e r n _ ih π' _; exact .objF cf (z a e).1 ((z a e).2 _ r) n (ih none trivial)
  · intro p a dx fs c ns ds cf e r n _ ih π' hp
    cases π' with
    | none => exact hp.elim
    | some ρ' =>
      have := hp a [] (by rw [List.append_nil]; exact e)
      rw [List.append_nil] at this
      exact .objO cf this.1 (this.2 _ r) n (ih _ hp)
  · intro π a kvs ks ds e r n _ ih π' _; exact .dicF (z a e).1 ((z a e).2 _ r) n (ih none trivial)
  · intro p a kvs ks ds e r n _ ih π' hp
    cases π' with
    | none => exact hp.elim
    | some ρ' =>
      have := hp a [] (by rw [List.append_nil]; exact e)
      rw [List.append_nil] at this
      exact .dicO this.1 (this.2 _ r) n (ih _ hp)
  · intro π a vs ds o its n h1 h2 h3 h4 h5 _ ih π' _; exact .tupK h1 h2 h3 h4 h5 (ih none trivial)
  · intro π a vs ds e r _ ih π' _; exact .scr (z a e).1 (rd_tr z e r) (ih none trivial)
  · intro π a vs ds o its n h1 h2 h3 h4 h5 h6 _ ih π' _; exact .scrK h1 h2 h3 h4 h5 h6 (ih none trivial)
  · intro π k π' _; exact .nil
  · intro π k v d vs ds _ _ ih1 ih2 π' hp; exact .cons (ih1 _ (hp.child k)) (ih2 _ hp)
theorem Owns.tr (z : FZ L H L' H') : ∀ {vs : List V} {ds : List D} {π : Option (List Nat)} {k : Nat}, Owns θ L H π k vs ds → ∀ π', PT L H L' H' π π' → Owns θ L' H' π' k vs ds
  | _, _, _, _, .nil, _, _ => .nil
  | _, _, _, k, .cons a b, _, hp => .cons (a.tr z _ (hp.child k)) (Owns.tr z b _ hp)
theorem Owns.length {π : Option (List Nat)} : ∀ {k : Nat} {vs : List V} {ds : List D}, Owns θ L H π k vs ds → vs.length = ds.length
  | _, _, _, .nil => rfl
  | _, _, _, .cons _ b => by rw [List.length_cons, List.length_cons, b.length]
theorem Owns.get {π : Option (List Nat)} : ∀ {k : Nat} {vs : List V} {ds : List D}, Owns θ L H π k vs ds → ∀ {i : Nat} {d : D}, ds[i]? = some d → ∃ v, vs[i]? = some v ∧ Own θ L H (π.map (· ++ [k + i])) v d
  | _, _, _, .nil, i, d, e => by simp at e
  | k, _, _, .cons a b, 0, d, e => by
    simp at e; subst e
    exact ⟨_, rfl, a⟩
  | k, _, _, .cons a b, i + 1, d, e => by
    obtain ⟨v, h1, h2⟩ := Owns.get b (i := i) (d := d) (by simpa using e)
    refine ⟨v, by simpa using h1, ?_⟩
    have : k + 1 + i = k + (i + 1) := by omega
    rw [← this]
    exact h2
theorem Owns.getV {π : Option (List Nat)} {k : Nat} {vs : List V} {ds : List D} (h : Owns θ L H π k vs ds) {i : Nat} {v : V} (e : vs[i]? = some v) : ∃ d, ds[i]? = some d ∧ Own θ L H (π.map (· ++ [k + i])) v d := by
  have hl := h.length
  have hi : i < ds.length := by rw [← hl]; exact (List.getElem?_eq_some_iff.mp e).1
  have e2 : ds[i]? = some ds[i] := List.getElem?_eq_getElem hi
  obtain ⟨v', h1, h2⟩ := h.get e2
  rw [e] at h1; cases h1
  exact ⟨_, e2, h2⟩

/-- what is frozen is frozen anywhere -/
theorem Own.frozen {π : Option (List Nat)} {v : V} {d : D} (h : Own θ L H π v d) : d.frz = true → Own θ L H none v d := by
  refine Own.rec (motive_1 := fun π v d _ => d.frz = true → Own θ L H none v d) (motive_2 := fun π k vs ds _ => D.frzs ds = true → Owns θ L H none k vs ds)
    ?_ ?_ ?_ ?_ ?_ ?_ ?_ ?_ ?_ ?_ ?_ ?_ ?_ ?_ ?_ ?_ ?_ h
  · intro π v e; cases e
  · intro π _; exact .non
  · intro π b _; exact .bl
  · intro π b _; exact .int
  · intro π b _; exact .str
  · intro π a vs ds e r h _ _; exact .tup e r h
  · intro π a vs ds e r h _ _; exact .lstF e r h
  · intro p a vs ds e r _ ih q; simp [D.frz] at q
  · intro π a dx fs c ns ds cf e r n h _ _; exact .objF cf e r n h
  · intro p a dx fs c ns ds cf e r n _ ih q; simp [D.frz] at q
  · intro π a kvs ks ds e r n h _ _; exact .dicF e r n h
  · intro p a kvs ks ds e r n _ ih q; simp [D.frz] at q
  · intro π a vs ds o its n h1 h2 h3 h4 h5 h _ _; exact .tupK h1 h2 h3 h4 h5 h
  · intro π a vs ds e r h _ _; exact .scr e r h
  · intro π a vs ds o its n h1 h2 h3 h4 h5 h6 h _ _; exact .scrK h1 h2 h3 h4 h5 h6 h
  · intro π k _; exact .nil
  · intro π k v d vs ds _ _ ih1 ih2 q
    have q' : (d.frz && D.frzs ds) = true := q
    rw [Bool.and_eq_true] at q'
    exact .cons (ih1 q'.1) (ih2 q'.2)
theorem Owns.frozen {π : Option (List Nat)} : ∀ {k : Nat} {vs : List V} {ds : List D}, Owns θ L H π k vs ds → D.frzs ds = true → Owns θ L H none k vs ds
  | _, _, _, .nil, _ => .nil
  | _, _, _, .cons a b, q => by
    have q' := Bool.and_eq_true _ _ ▸ q
    rw [D.frzs, Bool.and_eq_true] at q
    exact .cons (a.frozen q.1) (Owns.frozen b q.2)
/-- frozen, at any path -/
theorem Own.any {v : V} {d : D} (h : Own θ L H none v d) (π : Option (List Nat)) : Own θ L H π v d := h.tr (L' := L) (H' := H) (fun _ e => ⟨e, fun _ q => q⟩) π trivial
theorem Owns.any {k : Nat} {vs : List V} {ds : List D} (h : Owns θ L H none k vs ds) (π : Option (List Nat)) : Owns θ L H π k vs ds := h.tr (L' := L) (H' := H) (fun _ e => ⟨e, fun _ q => q⟩) π trivial
/-- the index at which children are counted does not matter when frozen -/
theorem Owns.shift : ∀ {k j : Nat} {vs : List V} {ds : List D}, Owns θ L H none k vs ds → Owns θ L H none j vs ds
  | _, _, _, _, .nil => .nil
  | _, _, _, _, .cons a b => .cons a (Owns.shift b)
end
end Y

namespace Y
open PySem L2

/-! ### label maps -/
def frzAt (p : List Nat) : Lab → Lab
  | .at q => if p.isPrefixOf q then .fz else .at q
  | l => l
theorem frzAt_in {p τ : List Nat} : frzAt p (.at (p ++ τ)) = .fz := by
  show (if p.isPrefixOf (p ++ τ) = true then Lab.fz else Lab.at (p ++ τ)) = .fz
  rw [if_pos]
  exact List.isPrefixOf_iff_prefix.mpr (List.prefix_append p τ)
theorem frzAt_fz {p : List Nat} : frzAt p .fz = .fz := rfl
theorem frzAt_no {p : List Nat} : frzAt p .no = .no := rfl
theorem frzAt_out {p q : List Nat} (h : ¬ p <+: q) : frzAt p (.at q) = .at q := by
  show (if p.isPrefixOf q = true then Lab.fz else Lab.at q) = .at q
  rw [if_neg]
  intro z
  exact h (List.isPrefixOf_iff_prefix.mp z)
/-- from root i to root j (what stood under j is forgotten) -/
def movR (i j : Nat) : Lab → Lab
  | .at (k :: τ) => if k = i then .at (j :: τ) else if k = j then .no else .at (k :: τ)
  | l => l
/-- from root i to below a path -/
def movP (i : Nat) (p : List Nat) : Lab → Lab
  | .at (k :: τ) => if k = i then .at (p ++ τ) else .at (k :: τ)
  | l => l
/-- forget what stands below a path -/
def dropP (p : List Nat) : Lab → Lab
  | .at q => if p.isPrefixOf q then .no else .at q
  | l => l

section
variable {θ : Th} {L L' L'' : LM} {H H' H'' : Hp}
theorem Own.fr_id {v : V} {d : D} (h : Own θ L H none v d) : d.fr = d := by
  refine Own.rec (motive_1 := fun π v d _ => π = none → d.fr = d) (motive_2 := fun π k vs ds _ => π = none → D.frs ds = ds)
    ?_ ?_ ?_ ?_ ?_ ?_ ?_ ?_ ?_ ?_ ?_ ?_ ?_ ?_ ?_ ?_ ?_ h rfl
  case _ => intros; rfl
  case _ => intros; rfl
  case _ => intros; rfl
  case _ => intros; rfl
  case _ => intros; rfl
  case _ => intro π a vs ds e r _ ih _; rw [D.fr, ih rfl]
  case _ => intro π a vs ds e r _ ih _; rw [D.fr, ih rfl]
  case _ => intro p a vs ds e r _ ih q; cases q
  case _ => intro π a dx fs c ns ds cf e r n _ ih _; rw [D.fr, ih rfl]
  case _ => intro p a dx fs c ns ds cf e r n _ ih q; cases q
  case _ => intro π a kvs ks ds e r n _ ih _; rw [D.fr, ih rfl]
  case _ => intro p a kvs ks ds e r n _ ih q; cases q
  case _ => intro π a vs ds o its n h1 h2 h3 h4 h5 _ ih _; rw [D.fr, ih rfl]
  case _ => intro π a vs ds e r _ ih _; rw [D.fr, ih rfl]
  case _ => intro π a vs ds o its n h1 h2 h3 h4 h5 h6 _ ih _; rw [D.fr, ih rfl]
  case _ => intros; rfl
  case _ =>
    intro π k v d vs ds _ _ ih1 ih2 q
    subst q
    rw [D.frs, ih1 rfl, ih2 rfl]
theorem Owns.frs_id : ∀ {k : Nat} {vs : List V} {ds : List D}, Owns θ L H none k vs ds → D.frs ds = ds
  | _, _, _, .nil => rfl
  | _, _, _, .cons a b => by rw [D.frs, a.fr_id, Owns.frs_id b]
theorem fz_frz (p : List Nat) : FZ L H (fun a => frzAt p (L a)) H := fun a e => ⟨by show frzAt p (L a) = .fz; rw [e]; rfl, fun _ q => q⟩
theorem Own.freeze {p : List Nat} {π : Option (List Nat)} {v : V} {d : D} (h : Own θ L H π v d) : (∀ q, π = some q → p <+: q) → Own θ (fun a => frzAt p (L a)) H none v d.fr := by
  have at_fz : ∀ {a : Addr} {q : List Nat}, L a = .at q → p <+: q → frzAt p (L a) = .fz := fun {a q} e ⟨τ, z⟩ => by rw [e, ← z]; exact frzAt_in
  have pre : ∀ {q : List Nat} (k : Nat), p <+: q → p <+: q ++ [k] := fun k z => z.trans (List.prefix_append _ _)
  refine Own.rec (motive_1 := fun π v d _ => (∀ q, π = some q → p <+: q) → Own θ (fun a => frzAt p (L a)) H none v d.fr) (motive_2 := fun π k vs ds _ => (∀ q, π = some q → p <+: q) → Owns θ (fun a => frzAt p (L a)) H none k vs (D.frs ds))
    ?_ ?_ ?_ ?_ ?_ ?_ ?_ ?_ ?_ ?_ ?_ ?_ ?_ ?_ ?_ ?_ ?_ h
  case _ => intros; exact .unk
  case _ => intros; exact .non
  case _ => intros; exact .bl
  case _ => intros; exact .int
  case _ => intros; exact .str
  case _ => intro π a vs ds e r _ ih _; exact .tup (by show frzAt p (L a) = .fz; rw [e]; rfl) r (ih fun _ q => nomatch q)
  case _ => intro π a vs ds e r _ ih _; exact .lstF (by show frzAt p (L a) = .fz; rw [e]; rfl) r (ih fun _ q => nomatch q)
  case _ => intro q a vs ds e r _ ih z; exact .lstF (at_fz e (z q rfl)) r (ih z)
  case _ => intro π a dx fs c ns ds cf e r n _ ih _; exact .objF cf (by show frzAt p (L a) = .fz; rw [e]; rfl) r n (ih fun _ q => nomatch q)
  case _ => intro q a dx fs c ns ds cf e r n _ ih z; exact .objF cf (at_fz e (z q rfl)) r n (ih z)
  case _ => intro π a kvs ks ds e r n _ ih _; exact .dicF (by show frzAt p (L a) = .fz; rw [e]; rfl) r n (ih fun _ q => nomatch q)
  case _ => intro q a kvs ks ds e r n _ ih z; exact .dicF (at_fz e (z q rfl)) r n (ih z)
  case _ => intro π a vs ds o its n h1 h2 h3 h4 h5 _ ih _; exact .tupK h1 h2 h3 h4 h5 (ih fun _ q => nomatch q)
  case _ => intro π a vs ds e r _ ih _; exact .scr (by show frzAt p (L a) = .fz; rw [e]; rfl) r (ih fun _ q => nomatch q)
  case _ => intro π a vs ds o its n h1 h2 h3 h4 h5 h6 _ ih _; exact .scrK h1 h2 h3 h4 h5 h6 (ih fun _ q => nomatch q)
  case _ => intros; exact .nil
  case _ =>
    intro π k v d vs ds _ _ ih1 ih2 z
    refine .cons (ih1 fun q e => ?_) (ih2 z)
    cases π with
    | none => cases e
    | some r =>
      cases e
      exact pre k (z r rfl)

/-! ### how a heap grows -/
/-- labels are on tracked objects alone -/
def LabOk (L : LM) (H : Hp) : Prop := ∀ a, L a ≠ .no → H a ≠ none
structure Ext (L : LM) (H : Hp) (L' : LM) (H' : Hp) : Prop where
  keep : ∀ a o, H a = some o → H' a = some o ∧ L' a = L a
  new : ∀ a, H a = none → L' a = .no ∨ (L' a = .fz ∧ H' a ≠ none)
/-- .. with a new object at root n -/
structure ExtN (n : Nat) (L : LM) (H : Hp) (L' : LM) (H' : Hp) : Prop where
  keep : ∀ a o, H a = some o → H' a = some o ∧ L' a = L a
  new : ∀ a, H a = none → L' a = .no ∨ (H' a ≠ none ∧ (L' a = .fz ∨ ∃ τ, L' a = .at (n :: τ)))
theorem Ext.refl (ok : LabOk L H) : Ext L H L H := ⟨fun _ _ e => ⟨e, rfl⟩, fun a e => Or.inl (Classical.byContradiction fun z => ok a z e)⟩
theorem Ext.toN (x : Ext L H L' H') (n : Nat) : ExtN n L H L' H' := ⟨x.keep, fun a e => (x.new a e).elim .inl fun z => .inr ⟨z.2, .inl z.1⟩⟩
theorem Ext.trans (x : Ext L H L' H') (y : Ext L' H' L'' H'') : Ext L H L'' H'' := by
  refine ⟨fun a o e => ?_, fun a e => ?_⟩
  · obtain ⟨h1, h2⟩ := x.keep a o e
    obtain ⟨h3, h4⟩ := y.keep a o h1
    exact ⟨h3, h4.trans h2⟩
  · cases q : H' a with
    | none => exact y.new a q
    | some o =>
      obtain ⟨h3, h4⟩ := y.keep a o q
      rcases x.new a e with z | z
      · exact .inl (h4.trans z)
      · exact .inr ⟨h4.trans z.1, by rw [h3]; exact fun q => nomatch q⟩
theorem Ext.transN {n : Nat} (x : Ext L H L' H') (y : ExtN n L' H' L'' H'') : ExtN n L H L'' H'' := by
  refine ⟨fun a o e => ?_, fun a e => ?_⟩
  · obtain ⟨h1, h2⟩ := x.keep a o e
    obtain ⟨h3, h4⟩ := y.keep a o h1
    exact ⟨h3, h4.trans h2⟩
  · cases q : H' a with
    | none => exact y.new a q
    | some o =>
      obtain ⟨h3, h4⟩ := y.keep a o q
      rcases x.new a e with z | z
      · exact .inl (h4.trans z)
      · exact .inr ⟨by rw [h3]; exact (fun q => nomatch q), .inl (h4.trans z.1)⟩
theorem ExtN.labOk {n : Nat} (x : ExtN n L H L' H') (ok : LabOk L H) : LabOk L' H' := fun a z e => by
  cases q : H a with
  | none =>
    rcases x.new a q with w | w
    · exact z w
    · exact w.1 e
  | some o =>
    have := (x.keep a o q).1
    rw [e] at this; cases this
theorem Ext.labOk (x : Ext L H L' H') (ok : LabOk L H) : LabOk L' H' := (x.toN 0).labOk ok
theorem ExtN.fz {n : Nat} (x : ExtN n L H L' H') (ok : LabOk L H) : FZ L H L' H' := fun a e => by
  cases q : H a with
  | none => exact absurd q (ok a (by rw [e]; exact fun z => nomatch z))
  | some o => exact ⟨(x.keep a o q).2.trans e, fun o' e' => by cases e'; exact (x.keep a o q).1⟩
theorem Ext.fz (x : Ext L H L' H') (ok : LabOk L H) : FZ L H L' H' := (x.toN 0).fz ok
theorem ExtN.pt {n : Nat} (x : ExtN n L H L' H') (ok : LabOk L H) (π : Option (List Nat)) : PT L H L' H' π π := by
  cases π with
  | none => trivial
  | some ρ =>
    intro a τ e
    cases q : H a with
    | none => exact absurd q (ok a (by rw [e]; exact fun z => nomatch z))
    | some o => exact ⟨(x.keep a o q).2.trans e, fun o' e' => by cases e'; exact (x.keep a o q).1⟩
theorem Own.extN {n : Nat} {π : Option (List Nat)} {v : V} {d : D} (h : Own θ L H π v d) (x : ExtN n L H L' H') (ok : LabOk L H) : Own θ L' H' π v d := h.tr (x.fz ok) π (x.pt ok π)
theorem Own.ext {π : Option (List Nat)} {v : V} {d : D} (h : Own θ L H π v d) (x : Ext L H L' H') (ok : LabOk L H) : Own θ L' H' π v d := h.extN (x.toN 0) ok
theorem Owns.ext {π : Option (List Nat)} {k : Nat} {vs : List V} {ds : List D} (h : Owns θ L H π k vs ds) (x : Ext L H L' H') (ok : LabOk L H) : Owns θ L' H' π k vs ds := h.tr (x.fz ok) π ((x.toN 0).pt ok π)
theorem Owns.extN {n : Nat} {π : Option (List Nat)} {k : Nat} {vs : List V} {ds : List D} (h : Owns θ L H π k vs ds) (x : ExtN n L H L' H') (ok : LabOk L H) : Owns θ L' H' π k vs ds := h.tr (x.fz ok) π (x.pt ok π)

/-- a new object, frozen | owned at a root -/
def setL (L : LM) (p : Addr) (l : Lab) : LM := fun a => if a = p then l else L a
theorem setL_same {p : Addr} {l : Lab} : setL L p l p = l := if_pos rfl
theorem setL_ne {p a : Addr} {l : Lab} (h : a ≠ p) : setL L p l a = L a := if_neg h
theorem ext_new {p : Addr} {o : HO} (ok : LabOk L H) (hp : H p = none) : Ext L H (setL L p .fz) (upd H p o) := by
  refine ⟨fun a u e => ?_, fun a e => ?_⟩
  · have ne : a ≠ p := ne_of_none e hp
    exact ⟨by rw [upd_ne ne]; exact e, setL_ne ne⟩
  · by_cases q : a = p
    · subst q; exact .inr ⟨setL_same, by rw [upd_same]; exact fun z => nomatch z⟩
    · rw [setL_ne q]
      exact .inl (Classical.byContradiction fun z => ok a z e)
theorem ext_newN {n : Nat} {τ : List Nat} {p : Addr} {o : HO} (ok : LabOk L H) (hp : H p = none) : ExtN n L H (setL L p (.at (n :: τ))) (upd H p o) := by
  refine ⟨fun a u e => ?_, fun a e => ?_⟩
  · have ne : a ≠ p := ne_of_none e hp
    exact ⟨by rw [upd_ne ne]; exact e, setL_ne ne⟩
  · by_cases q : a = p
    · subst q; exact .inr ⟨by rw [upd_same]; exact (fun z => nomatch z), .inr ⟨τ, setL_same⟩⟩
    · rw [setL_ne q]
      exact .inl (Classical.byContradiction fun z => ok a z e)
/-- the new objects' ownership forgotten -/
theorem ExtN.unN {n : Nat} (x : ExtN n L H L' H') : ∃ L2 : LM, Ext L H L2 H' ∧ ∀ a, L' a = .fz → L2 a = .fz := by
  refine ⟨fun a => match H a, L' a with | none, .at _ => .no | _, l => l, ⟨fun a o e => ?_, fun a e => ?_⟩, fun a e => ?_⟩
  · obtain ⟨h1, h2⟩ := x.keep a o e
    refine ⟨h1, ?_⟩
    simp only [e]; exact h2
  · simp only [e]
    rcases x.new a e with z | ⟨z, w | ⟨τ, w⟩⟩
    · rw [z]; exact .inl rfl
    · rw [w]; exact .inr ⟨rfl, z⟩
    · rw [w]; exact .inl rfl
  · simp only [e]
    cases H a <;> rfl
theorem ExtN.froz {n : Nat} {π : Option (List Nat)} {v : V} {d : D} (x : ExtN n L H L' H') (h : Own θ L' H' π v d) (z : d.frz = true) : ∃ L2 : LM, Ext L H L2 H' ∧ Own θ L2 H' none v d := by
  obtain ⟨L2, e, k⟩ := x.unN
  exact ⟨L2, e, (h.frozen z).tr (fun a q => ⟨k a q, fun _ r => r⟩) none trivial⟩
end

/-! ### what is known of the names and of what is held -/
structure Fx where
  L0 : LM
  H0 : Hp
  pin : List (Nat × V)
structure CR (θ : Th) (fx : Fx) (L : LM) (H : Hp) (cs : List (Option V)) (ds : List D) : Prop where
  len : cs.length = ds.length
  own : ∀ (i : Nat) (d : D), ds[i]? = some d → d = .unk ∨ ∃ v, cs[i]? = some (some v) ∧ Own θ L H (some [i]) v d
  lab : LabOk L H
  base : ∀ a o, fx.H0 a = some o → (fx.L0 a = .no → L a = .no ∧ H a = some o) ∧ (fx.L0 a = .fz → L a = .fz ∧ H a = some o)
  pin : ∀ p ∈ fx.pin, cs[p.1]? = some (some p.2)
section
variable {θ : Th} {fx : Fx} {L L' : LM} {H H' : Hp} {cs : List (Option V)} {ds : List D}
theorem CR.extN {n : Nat} (c : CR θ fx L H cs ds) (x : ExtN n L H L' H') : CR θ fx L' H' cs ds := by
  refine ⟨c.len, fun i d e => ?_, x.labOk c.lab, fun a o e => ?_, c.pin⟩
  · rcases c.own i d e with z | ⟨v, h1, h2⟩
    · exact .inl z
    · exact .inr ⟨v, h1, h2.extN x c.lab⟩
  · obtain ⟨h1, h2⟩ := c.base a o e
    refine ⟨fun z => ?_, fun z => ?_⟩
    · obtain ⟨h3, h4⟩ := h1 z
      obtain ⟨h5, h6⟩ := x.keep a o h4
      exact ⟨h6.trans h3, h5⟩
    · obtain ⟨h3, h4⟩ := h2 z
      obtain ⟨h5, h6⟩ := x.keep a o h4
      exact ⟨h6.trans h3, h5⟩
theorem CR.ext (c : CR θ fx L H cs ds) (x : Ext L H L' H') : CR θ fx L' H' cs ds := c.extN (x.toN 0)
/-- a value more is held -/
theorem CR.push {v : V} {d : D} (c : CR θ fx L H cs ds) (h : Own θ L H (some [cs.length]) v d) : CR θ fx L H (cs ++ [some v]) (ds ++ [d]) := by
  refine ⟨by simp [c.len], fun i e q => ?_, c.lab, c.base, fun p hp => ?_⟩
  · rcases Nat.lt_trichotomy i ds.length with hi | hi | hi
    · rw [List.getElem?_append_left hi] at q
      rw [List.getElem?_append_left (by rw [c.len]; exact hi)]
      exact c.own i e q
    · subst hi
      rw [List.getElem?_append_right (Nat.le_refl _), Nat.sub_self] at q
      cases q
      refine .inr ⟨v, ?_, ?_⟩
      · rw [List.getElem?_append_right (by rw [c.len]; exact Nat.le_refl _), c.len, Nat.sub_self]; rfl
      · rw [← c.len]; exact h
    · rw [List.getElem?_eq_none (by simp; omega)] at q; cases q
  · have := c.pin p hp
    rw [List.getElem?_append_left (List.getElem?_eq_some_iff.mp this).1]
    exact this
/-- the last value is let go -/
theorem CR.pop {ov : Option V} {d : D} (c : CR θ fx L H (cs ++ [ov]) (ds ++ [d])) (hp : ∀ p ∈ fx.pin, p.1 < cs.length) : CR θ fx L H cs ds := by
  have hl : cs.length = ds.length := by have := c.len; simpa using this
  refine ⟨hl, fun i e q => ?_, c.lab, c.base, fun p h => ?_⟩
  · have hi : i < ds.length := (List.getElem?_eq_some_iff.mp q).1
    have := c.own i e (by rw [List.getElem?_append_left hi]; exact q)
    rw [List.getElem?_append_left (by rw [hl]; exact hi)] at this
    exact this
  · have := c.pin p h
    rw [List.getElem?_append_left (hp p h)] at this
    exact this
end

/-! ### readings of expressions that change nothing -/
abbrev P := List D → Option D
/-- what an expression stands among: names, then what is held -/
structure At (θ : Th) (io : List Nat) (fx : Fx) (L : LM) (H : Hp) (σ : L2.St) (tv : List (Option V)) (env td : List D) : Prop where
  cr : CR θ fx L H (σ ++ tv) (env ++ td)
  len : σ.length = env.length
  ioe : fx.pin.map (·.1) = io
  lt : ∀ i ∈ io, i < σ.length
theorem At.ext {θ : Th} {io : List Nat} {fx : Fx} {L L' : LM} {H H' : Hp} {σ : L2.St} {tv : List (Option V)} {env td : List D} (c : At θ io fx L H σ tv env td) (x : Ext L H L' H') : At θ io fx L' H' σ tv env td := ⟨c.cr.ext x, c.len, c.ioe, c.lt⟩
def rdP (θ : Th) (io : List Nat) (p : P) : TE := fun σ H Q => ∃ fx L tv env td d, At θ io fx L H σ tv env td ∧ p env = some d ∧ ∀ v H' L' π, Ext L H L' H' → Own θ L' H' π v d → Q v H'
theorem pe_weak {X : Cx} {e : Expr} {t t' : TE} (h : PE X e t) (w : ∀ σ H Q, t' σ H Q → t σ H Q) : PE X e t' := ⟨fun pins s σ H Q I q => h.run pins s σ H Q I (w σ H Q q)⟩
theorem pt_weak {X : Cx} {e : Expr} {t t' : TT} (h : L2.PT X e t) (w : ∀ σ H Q, t' σ H Q → t σ H Q) : L2.PT X e t' := ⟨fun pins s σ H Q I q => h.run pins s σ H Q I (w σ H Q q)⟩
theorem pw_weak {X : Cx} {e : Expr} {t t' : TT} (h : PW X e t) (w : ∀ σ H Q, t' σ H Q → t σ H Q) : PW X e t' := ⟨fun wh pins s σ H Q I q => h.run wh pins s σ H Q I (w σ H Q q)⟩
theorem pa_weak {X : Cx} {es : List Expr} {t t' : TA} (h : PA X es t) (w : ∀ σ H Q, t' σ H Q → t σ H Q) : PA X es t' := ⟨fun pos pins s σ H Q I q => h.run pos pins s σ H Q I (w σ H Q q)⟩
theorem ps_weak {X : Cx} {st : Stmt} {t t' : TS} (h : PS X st t) (w : ∀ D σ H, t' D σ H → t D σ H) : PS X st t' := ⟨fun pins s σ H D I q => h.run pins s σ H D I (w D σ H q)⟩
theorem pss_weak {X : Cx} {st : List Stmt} {t t' : TS} (h : PSs X st t) (w : ∀ D σ H, t' D σ H → t D σ H) : PSs X st t' := ⟨fun pins s σ H D I q => h.run pins s σ H D I (w D σ H q)⟩

def pC (d : D) : P := fun _ => some d
def pVar (i : Nat) : P := fun env => match env[i]? with | some .unk => none | some d => some d | none => none
def pBin (f : D → D → Option D) (a b : P) : P := fun env => match a env with | some x => (match b env with | some y => (match f x y with | some z => if z.frz then some z else none | none => none) | none => none) | none => none
theorem pBin_some {f : D → D → Option D} {a b : P} {env : List D} {d : D} (h : pBin f a b env = some d) : ∃ x y z, a env = some x ∧ b env = some y ∧ f x y = some z ∧ z.frz = true ∧ d = z := by
  unfold pBin at h
  cases ha : a env with
  | none => rw [ha] at h; cases h
  | some x =>
    cases hb : b env with
    | none => rw [ha, hb] at h; cases h
    | some y =>
      cases hf : f x y with
      | none => rw [ha, hb] at h; simp only [hf] at h; cases h
      | some z =>
        rw [ha, hb] at h
        simp only [hf] at h
        split at h
        · rename_i q
          exact ⟨x, y, z, rfl, rfl, hf, q, (Option.some.inj h).symm⟩
        · cases h
section
variable {X : Cx} {θ : Th} {io : List Nat} {e a b c : Expr} {pos : Pos} {p q : P}
theorem At.var {fx : Fx} {L : LM} {H : Hp} {σ : L2.St} {tv : List (Option V)} {env td : List D} {i : Nat} {d : D} (c : At θ io fx L H σ tv env td) (h : env[i]? = some d) (hz : d ≠ .unk) : ∃ v, σ[i]? = some (some v) ∧ Own θ L H (some [i]) v d := by
  have hi : i < env.length := (List.getElem?_eq_some_iff.mp h).1
  rcases c.cr.own i d (by rw [List.getElem?_append_left hi]; exact h) with z | ⟨v, h1, h2⟩
  · exact absurd z hz
  · rw [List.getElem?_append_left (by rw [c.len]; exact hi)] at h1
    exact ⟨v, h1, h2⟩
theorem xp_c {v : V} {d : D} (h : PE X e (tC v)) (o : ∀ L H, Own θ L H none v d) : PE X e (rdP θ io (pC d)) := by
  refine pe_weak h fun σ H Q ⟨fx, L, tv, env, td, d', c, e1, k⟩ => ?_
  cases e1
  exact k v H L none (Ext.refl c.cr.lab) (o L H)
theorem xp_int {i j} : PE X (.Constant (.int i) j pos) (rdP θ io (pC (.int i))) := xp_c pe_int fun _ _ => .int
theorem xp_bl {i j} : PE X (.Constant (.bool i) j pos) (rdP θ io (pC (.bl i))) := xp_c pe_bl fun _ _ => .bl
theorem xp_non {j} : PE X (.Constant .none j pos) (rdP θ io (pC .non)) := xp_c pe_non fun _ _ => .non
theorem xp_str {s j} : PE X (.Constant (.str s) j pos) (rdP θ io (pC (.str s))) := xp_c pe_str fun _ _ => .str
theorem xp_var (i : Nat) (h : PE X e (tVar i)) : PE X e (rdP θ io (pVar i)) := by
  refine pe_weak h fun σ H Q ⟨fx, L, tv, env, td, d, c, e1, k⟩ => ?_
  unfold pVar at e1
  split at e1
  · cases e1
  · rename_i d' hu hd
    cases e1
    obtain ⟨v, h1, h2⟩ := c.var hd (fun z => hu z)
    exact ⟨v, h1, k v H L _ (Ext.refl c.cr.lab) h2⟩
  · cases e1
/-- an operation by values: data in (however owned), data out (new at root n, or frozen) -/
def rF (θ : Th) (f : D → D → Option D) : R2 := fun x y H Q => ∃ n L π π' dx dy d, LabOk L H ∧ Own θ L H π x dx ∧ Own θ L H π' y dy ∧ f dx dy = some d ∧ ∀ v H' L', ExtN n L H L' H' → Own θ L' H' (some [n]) v d → Q v H'
abbrev OpF (X : Cx) (θ : Th) (g : Value → Value → Sem Value) (f : D → D → Option D) : Prop := OpR X g (rF θ f)
theorem rd_op {f : D → D → Option D} {σ : L2.St} {H : Hp} {Q : VK} (h : rdP θ io (pBin f p q) σ H Q) : tOp (rF θ f) (rdP θ io p) (rdP θ io q) σ H Q := by
  obtain ⟨fx, L, tv, env, td, d, c, e1, k⟩ := h
  obtain ⟨x, y, z, hx, hy, hz, hf, rfl⟩ := pBin_some e1
  refine ⟨fx, L, tv, env, td, x, c, hx, fun v H1 L1 π1 x1 o1 => ?_⟩
  refine ⟨fx, L1, tv, env, td, y, c.ext x1, hy, fun w H2 L2 π2 x2 o2 => ?_⟩
  refine ⟨0, L2, π1, π2, x, y, d, x2.labOk (x1.labOk c.cr.lab), o1.ext x2 (x1.labOk c.cr.lab), o2, hz, fun u H3 L3 x3 o3 => ?_⟩
  obtain ⟨L4, x4, o4⟩ := x3.froz o3 hf
  exact k u H3 L4 none ((x1.trans x2).trans x4) o4
theorem xp_op {op : Operator} {f : D → D → Option D} (ho : OpF X θ (binaryOp op) f) (ha : PE X a (rdP θ io p)) (hb : PE X b (rdP θ io q)) : PE X (.BinOp a op b pos) (rdP θ io (pBin f p q)) :=
  pe_weak (pe_op ho ha hb) fun _ _ _ h => rd_op h
theorem xp_cmp {op : CmpOp} {f : D → D → Option D} (ho : OpF X θ (compareOp op) f) (ha : PE X a (rdP θ io p)) (hb : PE X b (rdP θ io q)) (hm : behindInMarks op b = false) : PE X (.Compare a [op] [b] pos) (rdP θ io (pBin f p q)) :=
  pe_weak (pe_cmpR ho ha hb hm) fun _ _ _ h => rd_op h
end
end Y

namespace Y
open PySem L2

/-! ### readings of expressions that may change what is owned, and raise -/
structure Exn where
  c : Nat
  ns : List Nat
  ds : List D
abbrev R := Except Exn D
abbrev M := List D → Option (R × List D)
abbrev MT := List D → Option (Except Exn Bool × List D)
abbrev MA := List D → Option (Except Exn (List D) × List D)
inductive Out where
  | next | ret (d : D) | brk | cont | exc (x : Exn)
abbrev SM := List D → Option (Out × List D)

structure ExR (θ : Th) (L : LM) (H : Hp) (cls : Value) (dd : Option Addr) (x : Exn) : Prop where
  cls : cls = .ref (θ.cA x.c)
  ds : ∃ a fs, dd = some a ∧ H a = some (.xd fs) ∧ fs.map (·.1) = x.ns.map θ.nm ∧ Owns θ L H none 0 (fs.map (·.2)) x.ds

structure Gc where
  θ : Th
  io : List Nat
  W : WX

def rdM (G : Gc) (m : M) : TE := fun σ H Q => ∃ fx L tv env td r env', At G.θ G.io fx L H σ tv env td ∧ m env = some (r, env') ∧
  match r with
  | .ok d => ∀ v H' L', At G.θ G.io fx L' H' σ (tv ++ [some v]) env' (td ++ [d]) → Q v H'
  | .error x => ∀ cls dd H' L', ExR G.θ L' H' cls dd x → At G.θ G.io fx L' H' σ tv env' td → G.W cls dd σ H'
def rdT (G : Gc) (m : MT) : TT := fun σ H Q => ∃ fx L tv env td r env', At G.θ G.io fx L H σ tv env td ∧ m env = some (r, env') ∧
  match r with
  | .ok b => ∀ H' L', At G.θ G.io fx L' H' σ tv env' td → Q b H'
  | .error x => ∀ cls dd H' L', ExR G.θ L' H' cls dd x → At G.θ G.io fx L' H' σ tv env' td → G.W cls dd σ H'
def rdA (G : Gc) (m : MA) : TA := fun σ H Q => ∃ fx L tv env td r env', At G.θ G.io fx L H σ tv env td ∧ m env = some (r, env') ∧
  match r with
  | .ok ds => ∀ vs H' L', vs.length = ds.length → At G.θ G.io fx L' H' σ (tv ++ vs.map some) env' (td ++ ds) → Q vs H'
  | .error x => ∀ cls dd H' L', ExR G.θ L' H' cls dd x → At G.θ G.io fx L' H' σ tv env' td → G.W cls dd σ H'
def rdS (G : Gc) (s : SM) : TS := fun D σ H => ∃ fx L tv env td o env', At G.θ G.io fx L H σ tv env td ∧ s env = some (o, env') ∧
  match o with
  | .next => ∀ σ' H' L', At G.θ G.io fx L' H' σ' tv env' td → D.nx σ' H'
  | .brk => ∀ σ' H' L', At G.θ G.io fx L' H' σ' tv env' td → D.bk σ' H'
  | .cont => ∀ σ' H' L', At G.θ G.io fx L' H' σ' tv env' td → D.ct σ' H'
  | .ret d => ∀ v σ' H' L', At G.θ G.io fx L' H' σ' (tv ++ [some v]) env' (td ++ [d]) → D.rt v H'
  | .exc x => ∀ cls dd σ' H' L', ExR G.θ L' H' cls dd x → At G.θ G.io fx L' H' σ' tv env' td → G.W cls dd σ' H'

section
variable {θ : Th} {io : List Nat} {fx : Fx} {L L' : LM} {H H' : Hp} {σ : L2.St} {tv : List (Option V)} {env td : List D} {v : V} {d : D}
theorem At.root (c : At θ io fx L H σ tv env td) : (σ ++ tv).length = (env ++ td).length := c.cr.len
theorem At.tlen (c : At θ io fx L H σ tv env td) : tv.length = td.length := by have := c.cr.len; simp only [List.length_append, c.len] at this; omega
theorem At.extN {n : Nat} (c : At θ io fx L H σ tv env td) (x : ExtN n L H L' H') : At θ io fx L' H' σ tv env td := ⟨c.cr.extN x, c.len, c.ioe, c.lt⟩
theorem At.push (c : At θ io fx L H σ tv env td) (o : Own θ L H (some [(σ ++ tv).length]) v d) : At θ io fx L H σ (tv ++ [some v]) env (td ++ [d]) := by
  refine ⟨?_, c.len, c.ioe, c.lt⟩
  rw [← List.append_assoc, ← List.append_assoc]
  exact c.cr.push o
theorem At.pinlt (c : At θ io fx L H σ tv env td) : ∀ p ∈ fx.pin, p.1 < (σ ++ tv).length := fun p hp => by
  have := c.lt p.1 (by rw [← c.ioe]; exact List.mem_map_of_mem hp)
  rw [List.length_append]; omega
theorem At.pop {ov : Option V} (c : At θ io fx L H σ (tv ++ [ov]) env (td ++ [d])) : At θ io fx L H σ tv env td := by
  have hl := c.tlen
  refine ⟨?_, c.len, c.ioe, c.lt⟩
  have cr := c.cr
  rw [← List.append_assoc, ← List.append_assoc] at cr
  refine cr.pop fun p hp => ?_
  have := c.lt p.1 (by rw [← c.ioe]; exact List.mem_map_of_mem hp)
  rw [List.length_append]; omega
theorem At.top {ov : Option V} (c : At θ io fx L H σ (tv ++ [ov]) env (td ++ [d])) (hd : d ≠ .unk) : ∃ v, ov = some v ∧ Own θ L H (some [(σ ++ tv).length]) v d := by
  have h1 : tv.length = td.length := by have := c.tlen; simpa using this
  have h2 := c.len
  have cr := c.cr
  rw [← List.append_assoc, ← List.append_assoc] at cr
  have hl : (σ ++ tv).length = (env ++ td).length := by simp [h1, h2]
  rcases cr.own (σ ++ tv).length d (by rw [hl, List.getElem?_append_right (Nat.le_refl _), Nat.sub_self]; rfl) with z | ⟨v, e1, e2⟩
  · exact absurd z hd
  · rw [List.getElem?_append_right (Nat.le_refl _), Nat.sub_self] at e1
    exact ⟨v, Option.some.inj e1, e2⟩
/-- a temporary's reading, at any depth -/
theorem At.tmp (c : At θ io fx L H σ tv env td) {i : Nat} (h : td[i]? = some d) (hd : d ≠ .unk) : ∃ v, tv[i]? = some (some v) ∧ Own θ L H (some [σ.length + i]) v d := by
  have h2 := c.len
  rcases c.cr.own (σ.length + i) d (by rw [h2, List.getElem?_append_right (by omega), Nat.add_sub_cancel_left]; exact h) with z | ⟨v, e1, e2⟩
  · exact absurd z hd
  · rw [List.getElem?_append_right (by omega), Nat.add_sub_cancel_left] at e1
    exact ⟨v, e1, e2⟩
end

/-! ### pure readings among them -/
def mP (p : P) : M := fun env => match p env with | some d => if d.frz then some (.ok d, env) else none | none => none
section
variable {X : Cx} {G : Gc} {e a b c : Expr} {es : List Expr} {pos : Pos} {p q : P} {m m' : M}
theorem xm_p (h : PE X e (rdP G.θ G.io p)) : PE X e (rdM G (mP p)) := by
  refine pe_weak h fun σ H Q ⟨fx, L, tv, env, td, r, env', c, e1, k⟩ => ?_
  unfold mP at e1
  cases hp : p env with
  | none => rw [hp] at e1; cases e1
  | some d =>
    rw [hp] at e1
    simp only at e1
    split at e1
    · rename_i hf
      cases e1
      exact ⟨fx, L, tv, env, td, d, c, hp, fun v H' L' π x o => k v H' L' ((c.ext x).push ((o.frozen hf).any _))⟩
    · cases e1

/-- the value of a name is handed on, frozen -/
def mFrz (i : Nat) : M := fun env => match env[i]? with | some .unk => none | some d => some (.ok d.fr, env.set i d.fr) | none => none
/-- the value of a name is taken out of it -/
def mTake (i : Nat) : M := fun env => match env[i]? with | some .unk => none | some d => some (.ok d, env.set i .unk) | none => none
end

/-! ### moves between roots -/
section
variable {θ : Th} {L L' : LM} {H H' : Hp}
theorem map_fz {g : Lab → Lab} (hz : g .fz = .fz) : FZ L H (fun a => g (L a)) H := fun a e => ⟨by show g (L a) = .fz; rw [e]; exact hz, fun _ q => q⟩
theorem map_pt {g : Lab → Lab} {ρ ρ' : List Nat} (h : ∀ τ, g (.at (ρ ++ τ)) = .at (ρ' ++ τ)) : PT L H (fun a => g (L a)) H (some ρ) (some ρ') := fun a τ e => ⟨by show g (L a) = _; rw [e]; exact h τ, fun _ q => q⟩
theorem Own.map {g : Lab → Lab} {ρ ρ' : List Nat} {v : V} {d : D} (h : Own θ L H (some ρ) v d) (hz : g .fz = .fz) (hg : ∀ τ, g (.at (ρ ++ τ)) = .at (ρ' ++ τ)) : Own θ (fun a => g (L a)) H (some ρ') v d := h.tr (map_fz hz) _ (map_pt hg)
theorem movR_same {i j : Nat} {τ : List Nat} : movR i j (.at ([i] ++ τ)) = .at ([j] ++ τ) := by
  show (if i = i then Lab.at (j :: τ) else _) = _
  rw [if_pos rfl]; rfl
theorem movR_ne {i j k : Nat} {τ : List Nat} (h1 : k ≠ i) (h2 : k ≠ j) : movR i j (.at ([k] ++ τ)) = .at ([k] ++ τ) := by
  show (if k = i then Lab.at (j :: τ) else if k = j then .no else .at (k :: τ)) = _
  rw [if_neg h1, if_neg h2]; rfl
theorem frz_ne {i k : Nat} {τ : List Nat} (h : k ≠ i) : frzAt [i] (.at ([k] ++ τ)) = .at ([k] ++ τ) := by
  refine frzAt_out fun z => ?_
  obtain ⟨t, e⟩ := z
  exact h (List.cons.inj e).1.symm
/-- what a map of labels must bear -/
structure GoodMap (g : Lab → Lab) : Prop where
  fz : g .fz = .fz
  no : g .no = .no
theorem good_movR (i j : Nat) : GoodMap (movR i j) := ⟨rfl, rfl⟩
theorem good_frz (p : List Nat) : GoodMap (frzAt p) := ⟨rfl, rfl⟩
theorem CR.map {fx : Fx} {cs cs' : List (Option V)} {ds ds' : List D} {g : Lab → Lab} (c : CR θ fx L H cs ds) (hg : GoodMap g) (hl : cs'.length = ds'.length)
    (own : ∀ (i : Nat) (d : D), ds'[i]? = some d → d = .unk ∨ ∃ v, cs'[i]? = some (some v) ∧ Own θ (fun a => g (L a)) H (some [i]) v d) (pin : ∀ p ∈ fx.pin, cs'[p.1]? = some (some p.2)) : CR θ fx (fun a => g (L a)) H cs' ds' := by
  refine ⟨hl, own, fun a z => ?_, fun a o e => ?_, pin⟩
  · refine c.lab a fun q => z ?_
    show g (L a) = .no
    rw [q]; exact hg.no
  · obtain ⟨h1, h2⟩ := c.base a o e
    refine ⟨fun z => ?_, fun z => ?_⟩
    · obtain ⟨h3, h4⟩ := h1 z
      exact ⟨by show g (L a) = .no; rw [h3]; exact hg.no, h4⟩
    · obtain ⟨h3, h4⟩ := h2 z
      exact ⟨by show g (L a) = .fz; rw [h3]; exact hg.fz, h4⟩
end
section
variable {θ : Th} {io : List Nat} {fx : Fx} {L : LM} {H : Hp} {σ : L2.St} {tv : List (Option V)} {env td : List D} {v : V} {d : D}
/-- a name is stored: the last temporary goes into it -/
theorem At.store {i : Nat} (c : At θ io fx L H σ (tv ++ [some v]) env (td ++ [d])) (hi : i ∉ io) (hn : i < σ.length) : At θ io fx (fun a => movR (σ ++ tv).length i (L a)) H (σ.set i (some v)) tv (env.set i d) td := by
  have hl := c.len
  have ht : tv.length = td.length := by have := c.tlen; simpa using this
  refine ⟨c.cr.map (good_movR _ _) (by simp [hl, ht]) (fun k e q => ?_) (fun p hp => ?_), by simpa using hl, c.ioe, fun k hk => by rw [List.length_set]; exact c.lt k hk⟩
  · have hk : k < (env ++ td).length := by have := (List.getElem?_eq_some_iff.mp q).1; simpa using this
    have hkn : k ≠ (σ ++ tv).length := by rw [List.length_append] at hk ⊢; omega
    by_cases hik : k = i
    · subst hik
      have hke : k < env.length := by rw [← hl]; exact hn
      rw [List.getElem?_append_left (by rw [List.length_set]; exact hke), List.getElem?_set_self hke] at q
      cases q
      by_cases hd : d = .unk
      · exact .inl hd
      · obtain ⟨v', e1, e2⟩ := c.top hd
        cases e1
        refine .inr ⟨v, ?_, e2.map rfl fun τ => movR_same⟩
        rw [List.getElem?_append_left (by rw [List.length_set, hl]; exact hke), List.getElem?_set_self (by rw [hl]; exact hke)]
    · have hpop : At θ io fx L H σ tv env td := c.pop
      have q' : (env ++ td)[k]? = some e := by
        by_cases hke : k < env.length
        · rw [List.getElem?_append_left (by rw [List.length_set]; exact hke), List.getElem?_set_ne (Ne.symm hik)] at q
          rw [List.getElem?_append_left hke]; exact q
        · rw [List.getElem?_append_right (by rw [List.length_set]; omega), List.length_set] at q
          rw [List.getElem?_append_right (by omega)]; exact q
      rcases hpop.cr.own k e q' with z | ⟨w, e1, e2⟩
      · exact .inl z
      · refine .inr ⟨w, ?_, e2.map rfl fun τ => movR_ne hkn hik⟩
        by_cases hke : k < σ.length
        · rw [List.getElem?_append_left hke] at e1
          rw [List.getElem?_append_left (by rw [List.length_set]; exact hke), List.getElem?_set_ne (Ne.symm hik)]
          exact e1
        · rw [List.getElem?_append_right (by omega)] at e1
          rw [List.getElem?_append_right (by rw [List.length_set]; omega), List.length_set]
          exact e1
  · have := c.pop.cr.pin p hp
    have hlt := c.lt p.1 (by rw [← c.ioe]; exact List.mem_map_of_mem hp)
    have hne : p.1 ≠ i := fun z => hi (by rw [← z, ← c.ioe]; exact List.mem_map_of_mem hp)
    rw [List.getElem?_append_left hlt] at this
    rw [List.getElem?_append_left (by rw [List.length_set]; exact hlt), List.getElem?_set_ne (Ne.symm hne)]
    exact this
end
end Y

namespace Y
open PySem L2

section
variable {θ : Th} {io : List Nat} {fx : Fx} {L : LM} {H : Hp} {σ : L2.St} {tv : List (Option V)} {env td : List D} {v : V} {d : D}
/-- a name's data is told anew -/
theorem At.mapSet {g : Lab → Lab} {i : Nat} {d' : D} (c : At θ io fx L H σ tv env td) (hg : GoodMap g) (hk : ∀ k, k ≠ i → k < (σ ++ tv).length → ∀ τ, g (.at ([k] ++ τ)) = .at ([k] ++ τ))
    (new : d' = .unk ∨ ∃ v, σ[i]? = some (some v) ∧ Own θ (fun a => g (L a)) H (some [i]) v d') (hn : i < σ.length) : At θ io fx (fun a => g (L a)) H σ tv (env.set i d') td := by
  have hl := c.len
  refine ⟨c.cr.map hg (by simp [hl, c.tlen]) (fun k e q => ?_) (fun p hp => c.cr.pin p hp), by simpa using hl, c.ioe, c.lt⟩
  have hkl : k < (σ ++ tv).length := by
    have := (List.getElem?_eq_some_iff.mp q).1
    have ht := c.tlen
    simp only [List.length_append, List.length_set] at this ⊢; omega
  by_cases hik : k = i
  · subst hik
    rw [List.getElem?_append_left (by rw [List.length_set, ← hl]; exact hn), List.getElem?_set_self (by rw [← hl]; exact hn)] at q
    cases q
    rcases new with z | ⟨w, e1, e2⟩
    · exact .inl z
    · exact .inr ⟨w, by rw [List.getElem?_append_left hn]; exact e1, e2⟩
  · have q' : (env ++ td)[k]? = some e := by
      by_cases hke : k < env.length
      · rw [List.getElem?_append_left (by rw [List.length_set]; exact hke), List.getElem?_set_ne (Ne.symm hik)] at q
        rw [List.getElem?_append_left hke]; exact q
      · rw [List.getElem?_append_right (by rw [List.length_set]; omega), List.length_set] at q
        rw [List.getElem?_append_right (by omega)]; exact q
    rcases c.cr.own k e q' with z | ⟨w, e1, e2⟩
    · exact .inl z
    · exact .inr ⟨w, e1, e2.map hg.fz fun τ => hk k hik hkl τ⟩
theorem At.frz {i : Nat} (c : At θ io fx L H σ tv env td) (h : env[i]? = some d) (hd : d ≠ .unk) : ∃ v, σ[i]? = some (some v) ∧ At θ io fx (fun a => frzAt [i] (L a)) H σ tv (env.set i d.fr) td ∧ Own θ (fun a => frzAt [i] (L a)) H none v d.fr := by
  obtain ⟨v, e1, e2⟩ := c.var h hd
  have hn : i < σ.length := (List.getElem?_eq_some_iff.mp e1).1
  have o := e2.freeze (p := [i]) fun q z => by cases z; exact List.prefix_rfl
  exact ⟨v, e1, c.mapSet (good_frz _) (fun k hk _ τ => frz_ne hk) (.inr ⟨v, e1, o.any _⟩) hn, o⟩
theorem At.take {i : Nat} (c : At θ io fx L H σ tv env td) (h : env[i]? = some d) (hd : d ≠ .unk) : ∃ v, σ[i]? = some (some v) ∧ At θ io fx (fun a => movR i (σ ++ tv).length (L a)) H σ (tv ++ [some v]) (env.set i .unk) (td ++ [d]) := by
  obtain ⟨v, e1, e2⟩ := c.var h hd
  have hn : i < σ.length := (List.getElem?_eq_some_iff.mp e1).1
  have c2 : At θ io fx (fun a => movR i (σ ++ tv).length (L a)) H σ tv (env.set i .unk) td := c.mapSet (good_movR _ _) (fun k hk hl τ => movR_ne hk (Nat.ne_of_lt hl)) (.inl rfl) hn
  exact ⟨v, e1, c2.push (e2.map rfl fun τ => movR_same)⟩
/-- several temporaries are let go -/
theorem At.popN {ws : List (Option V)} {es : List D} (hl : ws.length = es.length) (c : At θ io fx L H σ (tv ++ ws) env (td ++ es)) : At θ io fx L H σ tv env td := by
  have h0 := c.len
  have h1 : tv.length = td.length := by have := c.tlen; simp only [List.length_append] at this; omega
  have cr := c.cr
  rw [← List.append_assoc, ← List.append_assoc] at cr
  have hx : (σ ++ tv).length = (env ++ td).length := by simp [h0, h1]
  refine ⟨⟨hx, fun i e q => ?_, cr.lab, cr.base, fun p h => ?_⟩, c.len, c.ioe, c.lt⟩
  · have hi : i < (env ++ td).length := (List.getElem?_eq_some_iff.mp q).1
    have := cr.own i e (by rw [List.getElem?_append_left hi]; exact q)
    rw [List.getElem?_append_left (by rw [hx]; exact hi)] at this
    exact this
  · have := cr.pin p h
    have hlt := c.lt p.1 (by rw [← c.ioe]; exact List.mem_map_of_mem h)
    rw [List.getElem?_append_left (by rw [List.length_append]; omega)] at this
    exact this
/-- temporaries, as values -/
theorem At.tmps {vs : List V} {es : List D} (c : At θ io fx L H σ (tv ++ vs.map some) env (td ++ es)) (hl : vs.length = es.length) {i : Nat} {e : D} (h : es[i]? = some e) (he : e ≠ .unk) : ∃ v, vs[i]? = some v ∧ Own θ L H (some [(σ ++ tv).length + i]) v e := by
  have h1 : tv.length = td.length := by have := c.tlen; simp only [List.length_append, List.length_map] at this; omega
  obtain ⟨v, e1, e2⟩ := c.tmp (i := tv.length + i) (d := e) (by rw [h1, List.getElem?_append_right (by omega), Nat.add_sub_cancel_left]; exact h) he
  rw [List.getElem?_append_right (by omega), Nat.add_sub_cancel_left, List.getElem?_map] at e1
  cases q : vs[i]? with
  | none => rw [q] at e1; cases e1
  | some w =>
    rw [q] at e1
    cases e1
    refine ⟨_, rfl, ?_⟩
    rw [List.length_append, Nat.add_assoc]
    exact e2
end

def noUnk : List D → Bool
  | [] => true
  | .unk :: _ => false
  | _ :: r => noUnk r
theorem noUnk_get {ds : List D} (h : noUnk ds = true) {i : Nat} {d : D} (e : ds[i]? = some d) : d ≠ .unk := by
  induction ds generalizing i with
  | nil => simp at e
  | cons x r ih =>
    have hr : noUnk r = true ∧ x ≠ .unk := by
      cases x <;> first | (simp [noUnk] at h; done) | exact ⟨h, fun z => nomatch z⟩
    cases i with
    | zero => simp at e; subst e; exact hr.2
    | succ i => exact ih hr.1 (by simpa using e)
/-- all roots from n on are frozen -/
def frzGe (n : Nat) : Lab → Lab
  | .at (k :: τ) => if n ≤ k then .fz else .at (k :: τ)
  | l => l
theorem good_frzGe (n : Nat) : GoodMap (frzGe n) := ⟨rfl, rfl⟩
section
variable {θ : Th} {io : List Nat} {fx : Fx} {L : LM} {H : Hp} {σ : L2.St} {tv : List (Option V)} {env td : List D} {v : V} {d : D}
theorem Own.frzGe {n k : Nat} (h : Own θ L H (some [k]) v d) (hk : n ≤ k) : Own θ (fun a => frzGe n (L a)) H none v d.fr := by
  have o := h.freeze (p := [k]) fun q z => by cases z; exact List.prefix_rfl
  refine o.tr (fun a e => ⟨?_, fun _ q => q⟩) none trivial
  show Y.frzGe n (L a) = .fz
  have e' : frzAt [k] (L a) = .fz := e
  cases hl : L a with
  | no => rw [hl] at e'; cases e'
  | fz => rfl
  | «at» q =>
    rw [hl] at e'
    have hp : [k] <+: q := Classical.byContradiction fun z => by rw [frzAt_out z] at e'; cases e'
    obtain ⟨τ, rfl⟩ := hp
    show (if n ≤ k then Lab.fz else _) = _
    rw [if_pos hk]
/-- the temporaries vs, frozen: values for a call; what else is held stays -/
theorem At.args {vs : List V} {es : List D} (c : At θ io fx L H σ (tv ++ vs.map some) env (td ++ es)) (hl : vs.length = es.length) (hu : noUnk es = true) :
    At θ io fx (fun a => Y.frzGe (σ ++ tv).length (L a)) H σ tv env td ∧ Owns θ (fun a => Y.frzGe (σ ++ tv).length (L a)) H none 0 vs (D.frs es) := by
  constructor
  · have c2 := At.popN (by rw [List.length_map]; exact hl) c
    refine ⟨c2.cr.map (good_frzGe _) c2.cr.len (fun k e q => ?_) c2.cr.pin, c2.len, c2.ioe, c2.lt⟩
    have hk : k < (σ ++ tv).length := by rw [c2.cr.len]; exact (List.getElem?_eq_some_iff.mp q).1
    rcases c2.cr.own k e q with z | ⟨w, e1, e2⟩
    · exact .inl z
    · refine .inr ⟨w, e1, e2.map rfl fun τ => ?_⟩
      show (if _ ≤ k then Lab.fz else _) = _
      rw [if_neg (by omega)]; rfl
  · have all : ∀ (i : Nat) (e : D), es[i]? = some e → ∃ v, vs[i]? = some v ∧ Own θ (fun a => Y.frzGe (σ ++ tv).length (L a)) H none v e.fr := fun i e q => by
      obtain ⟨v, e1, e2⟩ := c.tmps hl q (noUnk_get hu q)
      exact ⟨v, e1, e2.frzGe (by omega)⟩
    clear c hu
    have go : ∀ (vs : List V) (es : List D) (k : Nat), vs.length = es.length → (∀ (i : Nat) (e : D), es[i]? = some e → ∃ v, vs[i]? = some v ∧ Own θ (fun a => Y.frzGe (σ ++ tv).length (L a)) H none v e.fr) → Owns θ (fun a => Y.frzGe (σ ++ tv).length (L a)) H none k vs (D.frs es) := by
      intro vs es
      induction es generalizing vs with
      | nil => intro k hl _; cases vs with | nil => exact .nil | cons => simp at hl
      | cons e r ih =>
        intro k hl all
        cases vs with
        | nil => simp at hl
        | cons v vs =>
          obtain ⟨w, e1, e2⟩ := all 0 e rfl
          simp at e1; subst e1
          exact .cons e2 (ih vs (k + 1) (by simpa using hl) fun i e q => by simpa using all (i + 1) e (by simpa using q))
    exact go vs es 0 hl all
end

section
variable {X : Cx} {G : Gc} {e a b c : Expr} {es : List Expr} {pos : Pos} {p q : P} {m m' : M} {ma : MA}
theorem xm_frz (i : Nat) (h : PE X e (tVar i)) : PE X e (rdM G (mFrz i)) := by
  refine pe_weak h fun σ H Q ⟨fx, L, tv, env, td, r, env', c, e1, k⟩ => ?_
  unfold mFrz at e1
  split at e1
  · cases e1
  · rename_i d hu hd
    cases e1
    obtain ⟨v, h1, c2, o⟩ := c.frz hd (fun z => hu z)
    exact ⟨v, h1, k v H _ (c2.push (o.any _))⟩
  · cases e1
theorem xm_take (i : Nat) (h : PE X e (tVar i)) : PE X e (rdM G (mTake i)) := by
  refine pe_weak h fun σ H Q ⟨fx, L, tv, env, td, r, env', c, e1, k⟩ => ?_
  unfold mTake at e1
  split at e1
  · cases e1
  · rename_i d hu hd
    cases e1
    obtain ⟨v, h1, c2⟩ := c.take hd (fun z => hu z)
    exact ⟨v, h1, k v H _ c2⟩
  · cases e1

/-! ### arguments -/
def aNil : MA := fun env => some (.ok [], env)
def aCons (m : M) (r : MA) : MA := fun env => match m env with
  | some (.ok d, env1) => (match r env1 with | some (.ok ds, env2) => some (.ok (d :: ds), env2) | some (.error x, env2) => some (.error x, env2) | none => none)
  | some (.error x, env1) => some (.error x, env1)
  | none => none
theorem xa_nil : PA X [] (rdA G aNil) := by
  refine pa_weak pa_nil fun σ H Q ⟨fx, L, tv, env, td, r, env', c, e1, k⟩ => ?_
  cases e1
  exact k [] H L rfl (by simpa using c)
theorem rd_cons {σ : L2.St} {H : Hp} {Q : List V → Hp → Prop} (h : rdA G (aCons m ma) σ H Q) : tCons (rdM G m) (rdA G ma) σ H Q := by
  obtain ⟨fx, L, tv, env, td, r, env', c, e1, k⟩ := h
  unfold aCons at e1
  show rdM G m σ H fun x H1 => rdA G ma σ H1 fun xs H2 => Q (x :: xs) H2
  cases hm : m env with
  | none => rw [hm] at e1; cases e1
  | some p1 =>
    obtain ⟨r1, env1⟩ := p1
    rw [hm] at e1
    cases r1 with
    | error x =>
      cases e1
      exact ⟨fx, L, tv, env, td, .error x, _, c, hm, k⟩
    | ok d =>
      simp only at e1
      refine ⟨fx, L, tv, env, td, .ok d, env1, c, hm, fun v H1 L1 c1 => ?_⟩
      cases hr : ma env1 with
      | none => rw [hr] at e1; cases e1
      | some p2 =>
        obtain ⟨r2, env2⟩ := p2
        rw [hr] at e1
        cases r2 with
        | error x =>
          cases e1
          exact ⟨fx, L1, _, env1, _, .error x, _, c1, hr, fun cls dd H2 L2 ex c2 => k cls dd H2 L2 ex c2.pop⟩
        | ok ds =>
          cases e1
          refine ⟨fx, L1, _, env1, _, .ok ds, _, c1, hr, fun vs H2 L2 hl c2 => k (v :: vs) H2 L2 (by simp [hl]) ?_⟩
          simpa [List.append_assoc] using c2
theorem xa_cons (ha : PE X e (rdM G m)) (hr : PA X es (rdA G ma)) (hs : starEach (e :: es) X.env = (false, eval e X.env) :: starEach es X.env := by rfl) : PA X (e :: es) (rdA G (aCons m ma)) :=
  pa_weak (pa_cons ha hr hs) fun _ _ _ h => rd_cons h

/-! ### two expressions, then an operation by values -/
def mBin (f : D → D → Option D) (a b : M) : M := fun env => match a env with
  | some (.ok x, env1) => (match b env1 with
    | some (.ok y, env2) => (match f x y with | some z => some (.ok z, env2) | none => none)
    | some (.error x, env2) => some (.error x, env2)
    | none => none)
  | some (.error x, env1) => some (.error x, env1)
  | none => none
theorem rd_opM {f : D → D → Option D} (hf : ∀ x y z, f x y = some z → x ≠ .unk ∧ y ≠ .unk) {σ : L2.St} {H : Hp} {Q : VK} (h : rdM G (mBin f m m') σ H Q) : tOp (rF G.θ f) (rdM G m) (rdM G m') σ H Q := by
  obtain ⟨fx, L, tv, env, td, r, env', c, e1, k⟩ := h
  unfold mBin at e1
  show rdM G m σ H fun x H1 => rdM G m' σ H1 fun y H2 => rF G.θ f x y H2 Q
  cases hm : m env with
  | none => rw [hm] at e1; cases e1
  | some p1 =>
    obtain ⟨r1, env1⟩ := p1
    rw [hm] at e1
    cases r1 with
    | error x =>
      cases e1
      exact ⟨fx, L, tv, env, td, .error x, _, c, hm, k⟩
    | ok d =>
      simp only at e1
      refine ⟨fx, L, tv, env, td, .ok d, env1, c, hm, fun v H1 L1 c1 => ?_⟩
      cases hr : m' env1 with
      | none => rw [hr] at e1; cases e1
      | some p2 =>
        obtain ⟨r2, env2⟩ := p2
        rw [hr] at e1
        cases r2 with
        | error x =>
          cases e1
          exact ⟨fx, L1, _, env1, _, .error x, _, c1, hr, fun cls dd H2 L2 ex c2 => k cls dd H2 L2 ex c2.pop⟩
        | ok d2 =>
          simp only at e1
          cases hz : f d d2 with
          | none => rw [hz] at e1; cases e1
          | some z =>
            rw [hz] at e1
            cases e1
            obtain ⟨u1, u2⟩ := hf _ _ _ hz
            refine ⟨fx, L1, _, env1, _, .ok d2, _, c1, hr, fun w H2 L2 c2 => ?_⟩
            obtain ⟨w', ew, o2⟩ := c2.top u2
            cases ew
            obtain ⟨v', ev, o1⟩ := c2.pop.top u1
            cases ev
            refine ⟨(σ ++ tv).length, L2, _, _, d, d2, z, c2.cr.lab, o1, o2, hz, fun u H3 L3 x3 o3 => ?_⟩
            exact k u H3 L3 ((c2.pop.pop.extN x3).push o3)
theorem xm_op {op : Operator} {f : D → D → Option D} (ho : OpF X G.θ (binaryOp op) f) (hf : ∀ x y z, f x y = some z → x ≠ .unk ∧ y ≠ .unk) (ha : PE X a (rdM G m)) (hb : PE X b (rdM G m')) : PE X (.BinOp a op b pos) (rdM G (mBin f m m')) :=
  pe_weak (pe_op ho ha hb) fun _ _ _ h => rd_opM hf h
theorem xm_cmp {op : CmpOp} {f : D → D → Option D} (ho : OpF X G.θ (compareOp op) f) (hf : ∀ x y z, f x y = some z → x ≠ .unk ∧ y ≠ .unk) (ha : PE X a (rdM G m)) (hb : PE X b (rdM G m')) (hm : behindInMarks op b = false) : PE X (.Compare a [op] [b] pos) (rdM G (mBin f m m')) :=
  pe_weak (pe_cmpR ho ha hb hm) fun _ _ _ h => rd_opM hf h
end
end Y

namespace Y
open PySem L2

/-! ### tests -/
def tM (m : M) : MT := fun env => match m env with
  | some (.ok (.bl b), env') => some (.ok b, env')
  | some (.error x, env') => some (.error x, env')
  | _ => none
def tAndM (t u : MT) : MT := fun env => match t env with
  | some (.ok true, env1) => u env1
  | some (.ok false, env1) => some (.ok false, env1)
  | some (.error x, env1) => some (.error x, env1)
  | none => none
def tOrM (t u : MT) : MT := fun env => match t env with
  | some (.ok true, env1) => some (.ok true, env1)
  | some (.ok false, env1) => u env1
  | some (.error x, env1) => some (.error x, env1)
  | none => none
def tNotM (t : MT) : MT := fun env => match t env with
  | some (.ok b, env1) => some (.ok (!b), env1)
  | some (.error x, env1) => some (.error x, env1)
  | none => none
section
variable {X : Cx} {G : Gc} {e a b c : Expr} {rest : List Expr} {pos : Pos} {p q : P} {m m' : M} {t u : MT}
theorem rd_t {σ : L2.St} {H : Hp} {Q : Bool → Hp → Prop} (h : rdT G (tM m) σ H Q) : rdM G m σ H fun x H1 => ∃ k, x = .bl k ∧ Q k H1 := by
  obtain ⟨fx, L, tv, env, td, r, env', c, e1, k⟩ := h
  unfold tM at e1
  split at e1
  · rename_i b env2 hm
    cases e1
    refine ⟨fx, L, tv, env, td, .ok (.bl b), _, c, hm, fun v H' L' c' => ?_⟩
    obtain ⟨w, ew, o⟩ := c'.top (fun z => nomatch z)
    cases ew
    cases o
    exact ⟨b, rfl, k H' L' c'.pop⟩
  · rename_i x env2 hm
    cases e1
    exact ⟨fx, L, tv, env, td, .error x, _, c, hm, k⟩
  · cases e1
theorem xt_val (h : PE X e (rdM G m)) (he : ∀ whole, isTrue e X.env whole = (do let v ← whole; standAt e.pos; holding [v] (truthy v)) := by intro _; rfl) : L2.PT X e (rdT G (tM m)) :=
  pt_weak (pt_val h he) fun _ _ _ h => rd_t h
theorem xt_cmp {op : CmpOp} {f : D → D → Option D} (ho : OpF X G.θ (compareOp op) f) (hf : ∀ x y z, f x y = some z → x ≠ .unk ∧ y ≠ .unk) (ha : PE X a (rdM G m)) (hb : PE X b (rdM G m')) (hm : behindInMarks op b = false) : L2.PT X (.Compare a [op] [b] pos) (rdT G (tM (mBin f m m'))) :=
  pt_weak (pt_cmpR ho ha hb hm) fun σ H Q h => by
    show tOp (rF G.θ f) (rdM G m) (rdM G m') σ H fun x H' => ∃ k, x = .bl k ∧ Q k H'
    exact rd_opM hf (rd_t h)
theorem rd_mp {σ : L2.St} {H : Hp} {Q : VK} (h : rdM G (mP p) σ H Q) : rdP G.θ G.io p σ H Q := by
  obtain ⟨fx, L, tv, env, td, r, env', c, e1, k⟩ := h
  unfold mP at e1
  cases hp : p env with
  | none => rw [hp] at e1; cases e1
  | some d =>
    rw [hp] at e1
    simp only at e1
    split at e1
    · rename_i hf
      cases e1
      exact ⟨fx, L, tv, env, td, d, c, hp, fun v H' L' π x o => k v H' L' ((c.ext x).push ((o.frozen hf).any _))⟩
    · cases e1
theorem xt_pcmp {op : CmpOp} {f : D → D → Option D} (ho : OpF X G.θ (compareOp op) f) (ha : PE X a (rdP G.θ G.io p)) (hb : PE X b (rdP G.θ G.io q)) (hm : behindInMarks op b = false) : L2.PT X (.Compare a [op] [b] pos) (rdT G (tM (mP (pBin f p q)))) :=
  pt_weak (pt_cmpR ho ha hb hm) fun σ H Q h => by
    show tOp (rF G.θ f) (rdP G.θ G.io p) (rdP G.θ G.io q) σ H fun x H' => ∃ k, x = .bl k ∧ Q k H'
    exact rd_op (rd_mp (rd_t h))
theorem rd_and {σ : L2.St} {H : Hp} {Q : Bool → Hp → Prop} (h : rdT G (tAndM t u) σ H Q) : tAnd (rdT G t) (rdT G u) σ H Q := by
  obtain ⟨fx, L, tv, env, td, r, env', c, e1, k⟩ := h
  unfold tAndM at e1
  show rdT G t σ H fun c H1 => if c = true then rdT G u σ H1 Q else Q false H1
  split at e1
  · rename_i env1 hm
    exact ⟨fx, L, tv, env, td, .ok true, env1, c, hm, fun H' L' c' => iteT ⟨fx, L', tv, env1, td, r, env', c', e1, k⟩⟩
  · rename_i env1 hm
    cases e1
    exact ⟨fx, L, tv, env, td, .ok false, _, c, hm, fun H' L' c' => iteF (k H' L' c')⟩
  · rename_i x env1 hm
    cases e1
    exact ⟨fx, L, tv, env, td, .error x, _, c, hm, k⟩
  · cases e1
theorem rd_or {σ : L2.St} {H : Hp} {Q : Bool → Hp → Prop} (h : rdT G (tOrM t u) σ H Q) : tOr (rdT G t) (rdT G u) σ H Q := by
  obtain ⟨fx, L, tv, env, td, r, env', c, e1, k⟩ := h
  unfold tOrM at e1
  show rdT G t σ H fun c H1 => if c = true then Q true H1 else rdT G u σ H1 Q
  split at e1
  · rename_i env1 hm
    cases e1
    exact ⟨fx, L, tv, env, td, .ok true, _, c, hm, fun H' L' c' => iteT (k H' L' c')⟩
  · rename_i env1 hm
    exact ⟨fx, L, tv, env, td, .ok false, env1, c, hm, fun H' L' c' => iteF ⟨fx, L', tv, env1, td, r, env', c', e1, k⟩⟩
  · rename_i x env1 hm
    cases e1
    exact ⟨fx, L, tv, env, td, .error x, _, c, hm, k⟩
  · cases e1
theorem xw_and (ha : L2.PT X a (rdT G t)) (hb : PW X (.BoolOp .And (b :: rest) pos) (rdT G u)) : PW X (.BoolOp .And (a :: b :: rest) pos) (rdT G (tAndM t u)) := pw_weak (pw_and ha hb) fun _ _ _ h => rd_and h
theorem xw_and1 (ha : L2.PT X a (rdT G t)) : PW X (.BoolOp .And [a] pos) (rdT G t) := pw_and1 ha
theorem xw_or (ha : L2.PT X a (rdT G t)) (hb : PW X (.BoolOp .Or (b :: rest) pos) (rdT G u)) : PW X (.BoolOp .Or (a :: b :: rest) pos) (rdT G (tOrM t u)) := pw_weak (pw_or ha hb) fun _ _ _ h => rd_or h
theorem xw_or1 (ha : L2.PT X a (rdT G t)) : PW X (.BoolOp .Or [a] pos) (rdT G t) := pw_or1 ha
theorem xt_not (ha : L2.PT X a (rdT G t)) : L2.PT X (.UnaryOp .Not a pos) (rdT G (tNotM t)) := pt_weak (pt_not ha) fun σ H Q ⟨fx, L, tv, env, td, r, env', c, e1, k⟩ => by
  unfold tNotM at e1
  show rdT G t σ H fun c H1 => Q (!c) H1
  split at e1
  · rename_i b env1 hm
    cases e1
    exact ⟨fx, L, tv, env, td, .ok b, _, c, hm, k⟩
  · rename_i x env1 hm
    cases e1
    exact ⟨fx, L, tv, env, td, .error x, _, c, hm, k⟩
  · cases e1
/-- and, or, not as values that are bools -/
def mAndV (a b : M) : M := fun env => match a env with
  | some (.ok (.bl true), env1) => b env1
  | some (.ok (.bl false), env1) => some (.ok (.bl false), env1)
  | some (.error x, env1) => some (.error x, env1)
  | _ => none
def mOrV (a b : M) : M := fun env => match a env with
  | some (.ok (.bl true), env1) => some (.ok (.bl true), env1)
  | some (.ok (.bl false), env1) => b env1
  | some (.error x, env1) => some (.error x, env1)
  | _ => none
def mNotV (a : M) : M := fun env => match a env with
  | some (.ok (.bl b), env1) => some (.ok (.bl (!b)), env1)
  | some (.error x, env1) => some (.error x, env1)
  | _ => none
theorem At.bl {θ : Th} {io : List Nat} {fx : Fx} {L : LM} {H : Hp} {σ : L2.St} {tv : List (Option V)} {env td : List D} {v : V} {b : Bool} (c : At θ io fx L H σ (tv ++ [some v]) env (td ++ [.bl b])) : v = .bl b := by
  obtain ⟨w, ew, o⟩ := c.top (fun z => nomatch z)
  cases ew
  cases o
  rfl
theorem xm_and (ha : PE X a (rdM G m)) (hb : PE X (.BoolOp .And (b :: rest) pos) (rdM G m')) : PE X (.BoolOp .And (a :: b :: rest) pos) (rdM G (mAndV m m')) := pe_weak (pe_and ha hb) fun σ H Q ⟨fx, L, tv, env, td, r, env', c, e1, k⟩ => by
  unfold mAndV at e1
  show rdM G m σ H fun x H1 => ∃ c, x = .bl c ∧ if c = true then rdM G m' σ H1 Q else Q (.bl false) H1
  split at e1
  · rename_i env1 hm
    refine ⟨fx, L, tv, env, td, .ok (.bl true), env1, c, hm, fun v H' L' c' => ?_⟩
    exact ⟨true, c'.bl, iteT ⟨fx, L', tv, env1, td, r, env', c'.pop, e1, k⟩⟩
  · rename_i env1 hm
    cases e1
    refine ⟨fx, L, tv, env, td, .ok (.bl false), _, c, hm, fun v H' L' c' => ?_⟩
    refine ⟨false, c'.bl, iteF (by rw [← c'.bl]; exact k v H' L' c')⟩
  · rename_i x env1 hm
    cases e1
    exact ⟨fx, L, tv, env, td, .error x, _, c, hm, k⟩
  · cases e1
theorem xm_or (ha : PE X a (rdM G m)) (hb : PE X (.BoolOp .Or (b :: rest) pos) (rdM G m')) : PE X (.BoolOp .Or (a :: b :: rest) pos) (rdM G (mOrV m m')) := pe_weak (pe_or ha hb) fun σ H Q ⟨fx, L, tv, env, td, r, env', c, e1, k⟩ => by
  unfold mOrV at e1
  show rdM G m σ H fun x H1 => ∃ c, x = .bl c ∧ if c = true then Q (.bl true) H1 else rdM G m' σ H1 Q
  split at e1
  · rename_i env1 hm
    cases e1
    refine ⟨fx, L, tv, env, td, .ok (.bl true), _, c, hm, fun v H' L' c' => ?_⟩
    exact ⟨true, c'.bl, iteT (by rw [← c'.bl]; exact k v H' L' c')⟩
  · rename_i env1 hm
    refine ⟨fx, L, tv, env, td, .ok (.bl false), env1, c, hm, fun v H' L' c' => ?_⟩
    exact ⟨false, c'.bl, iteF ⟨fx, L', tv, env1, td, r, env', c'.pop, e1, k⟩⟩
  · rename_i x env1 hm
    cases e1
    exact ⟨fx, L, tv, env, td, .error x, _, c, hm, k⟩
  · cases e1
theorem xm_one {op} (ha : PE X a (rdM G m)) : PE X (.BoolOp op [a] pos) (rdM G m) := pe_one ha
theorem xm_not (ha : PE X a (rdM G m)) : PE X (.UnaryOp .Not a pos) (rdM G (mNotV m)) := pe_weak (pe_not ha) fun σ H Q ⟨fx, L, tv, env, td, r, env', c, e1, k⟩ => by
  unfold mNotV at e1
  show rdM G m σ H fun x H1 => ∃ c, x = .bl c ∧ Q (.bl (!c)) H1
  split at e1
  · rename_i b env1 hm
    cases e1
    refine ⟨fx, L, tv, env, td, .ok (.bl b), _, c, hm, fun v H' L' c' => ⟨b, c'.bl, k _ H' L' ?_⟩⟩
    exact c'.pop.push .bl
  · rename_i x env1 hm
    cases e1
    exact ⟨fx, L, tv, env, td, .error x, _, c, hm, k⟩
  · cases e1
/-- a if t else b -/
def mIf (t : MT) (a b : M) : M := fun env => match t env with
  | some (.ok true, env1) => a env1
  | some (.ok false, env1) => b env1
  | some (.error x, env1) => some (.error x, env1)
  | none => none
theorem xm_if (hc : L2.PT X c (rdT G t)) (ha : PE X a (rdM G m)) (hb : PE X b (rdM G m')) : PE X (.IfExp c a b pos) (rdM G (mIf t m m')) := pe_weak (pe_ifExp hc ha hb) fun σ H Q ⟨fx, L, tv, env, td, r, env', c, e1, k⟩ => by
  unfold mIf at e1
  show rdT G t σ H fun c H1 => if c = true then rdM G m σ H1 Q else rdM G m' σ H1 Q
  split at e1
  · rename_i env1 hm
    exact ⟨fx, L, tv, env, td, .ok true, _, c, hm, fun H' L' c' => iteT ⟨fx, L', tv, env1, td, r, env', c', e1, k⟩⟩
  · rename_i env1 hm
    exact ⟨fx, L, tv, env, td, .ok false, _, c, hm, fun H' L' c' => iteF ⟨fx, L', tv, env1, td, r, env', c', e1, k⟩⟩
  · rename_i x env1 hm
    cases e1
    exact ⟨fx, L, tv, env, td, .error x, _, c, hm, k⟩
  · cases e1
end

/-! ### statements -/
def sNext : SM := fun env => some (.next, env)
def sSeq (s t : SM) : SM := fun env => match s env with
  | some (.next, env1) => t env1
  | r => r
def sRet (m : M) : SM := fun env => match m env with
  | some (.ok d, env1) => some (.ret d, env1)
  | some (.error x, env1) => some (.exc x, env1)
  | none => none
def sDrop (m : M) : SM := fun env => match m env with
  | some (.ok _, env1) => some (.next, env1)
  | some (.error x, env1) => some (.exc x, env1)
  | none => none
def sSet (i : Nat) (m : M) : SM := fun env => match m env with
  | some (.ok d, env1) => if i < env1.length then some (.next, env1.set i d) else none
  | some (.error x, env1) => some (.exc x, env1)
  | none => none
def sIf (t : MT) (s u : SM) : SM := fun env => match t env with
  | some (.ok true, env1) => s env1
  | some (.ok false, env1) => u env1
  | some (.error x, env1) => some (.exc x, env1)
  | none => none
def sNever : SM := fun _ => none
def sBrk : SM := fun env => some (.brk, env)
def sCont : SM := fun env => some (.cont, env)
section
variable {X : Cx} {G : Gc} {e a b c : Expr} {st : Stmt} {rest body : List Stmt} {pos : Pos} {m m' : M} {t : MT} {s u : SM}
theorem xss_nil : PSs X [] (rdS G sNext) := pss_weak pss_nil fun D σ H ⟨fx, L, tv, env, td, o, env', c, e1, k⟩ => by
  cases e1
  exact k σ H L c
theorem xss_cons (h1 : PS X st (rdS G s)) (h2 : PSs X rest (rdS G u)) : PSs X (st :: rest) (rdS G (sSeq s u)) := pss_weak (pss_cons h1 h2) fun D σ H ⟨fx, L, tv, env, td, o, env', c, e1, k⟩ => by
  unfold sSeq at e1
  show rdS G s { D with nx := rdS G u D } σ H
  cases hs : s env with
  | none => rw [hs] at e1; cases e1
  | some q =>
    obtain ⟨o1, env1⟩ := q
    rw [hs] at e1
    cases o1 with
    | next => exact ⟨fx, L, tv, env, td, .next, env1, c, hs, fun σ' H' L' c' => ⟨fx, L', tv, env1, td, o, env', c', e1, k⟩⟩
    | ret d => cases e1; exact ⟨fx, L, tv, env, td, .ret d, _, c, hs, k⟩
    | brk => cases e1; exact ⟨fx, L, tv, env, td, .brk, _, c, hs, k⟩
    | cont => cases e1; exact ⟨fx, L, tv, env, td, .cont, _, c, hs, k⟩
    | exc x => cases e1; exact ⟨fx, L, tv, env, td, .exc x, _, c, hs, k⟩
theorem xss_one (h1 : PS X st (rdS G s)) : PSs X [st] (rdS G s) := pss_one h1
theorem xs_pass : PS X (.Pass pos) (rdS G sNext) := ps_weak ps_pass fun D σ H ⟨fx, L, tv, env, td, o, env', c, e1, k⟩ => by
  cases e1
  exact k σ H L c
theorem xs_break : PS X (.Break pos) (rdS G sBrk) := ps_weak ps_break fun D σ H ⟨fx, L, tv, env, td, o, env', c, e1, k⟩ => by
  cases e1
  exact k σ H L c
theorem xs_continue : PS X (.Continue pos) (rdS G sCont) := ps_weak ps_continue fun D σ H ⟨fx, L, tv, env, td, o, env', c, e1, k⟩ => by
  cases e1
  exact k σ H L c
theorem xs_never : PS X st (rdS G sNever) := ps_weak ps_never fun D σ H ⟨fx, L, tv, env, td, o, env', c, e1, k⟩ => by cases e1
theorem xss_never : PSs X body (rdS G sNever) := pss_weak pss_never fun D σ H ⟨fx, L, tv, env, td, o, env', c, e1, k⟩ => by cases e1
theorem xs_ret (h : PE X e (rdM G m)) : PS X (.Return (some e) pos) (rdS G (sRet m)) := ps_weak (ps_ret h) fun D σ H ⟨fx, L, tv, env, td, o, env', c, e1, k⟩ => by
  unfold sRet at e1
  show rdM G m σ H D.rt
  split at e1
  · rename_i d env1 hm
    cases e1
    exact ⟨fx, L, tv, env, td, .ok d, _, c, hm, fun v H' L' c' => k v σ H' L' c'⟩
  · rename_i x env1 hm
    cases e1
    exact ⟨fx, L, tv, env, td, .error x, _, c, hm, fun cls dd H' L' ex c' => k cls dd σ H' L' ex c'⟩
  · cases e1
def sRetN : SM := fun env => some (.ret .non, env)
theorem xs_retN : PS X (.Return none pos) (rdS G sRetN) := ps_weak ps_retN fun D σ H ⟨fx, L, tv, env, td, o, env', c, e1, k⟩ => by
  cases e1
  exact k .non σ H L (c.push .non)
theorem xs_expr (h : PE X e (rdM G m)) (hs : swapsWith e none pos.line X.env = pure false := by rfl) : PS X (.Expr e pos) (rdS G (sDrop m)) := ps_weak (ps_expr h hs) fun D σ H ⟨fx, L, tv, env, td, o, env', c, e1, k⟩ => by
  unfold sDrop at e1
  show rdM G m σ H fun _ H1 => D.nx σ H1
  split at e1
  · rename_i d env1 hm
    cases e1
    exact ⟨fx, L, tv, env, td, .ok d, _, c, hm, fun v H' L' c' => k σ H' L' c'.pop⟩
  · rename_i x env1 hm
    cases e1
    exact ⟨fx, L, tv, env, td, .error x, _, c, hm, fun cls dd H' L' ex c' => k cls dd σ H' L' ex c'⟩
  · cases e1
theorem xs_set {i : Nat} {x : Str} {pos' : Pos} (hN : X.N.Nodup) (hi : X.N[i]? = some x) (hx : Loc X.env.scope x) (hio : G.io.contains i = false) (h : PE X e (rdM G m)) (hs : swapsWith e (some (.Name x pos')) pos.line X.env = pure false := by rfl) (hf : X.fn x = true ∨ X.env.scope.names.lookup x = some .local := by first | exact .inl rfl | exact .inr rfl | assumption) :
    PS X (.Assign [.Name x pos'] e pos) (rdS G (sSet i m)) := ps_weak (ps_set hN hi hx h hs hf) fun D σ H ⟨fx, L, tv, env, td, o, env', c, e1, k⟩ => by
  unfold sSet at e1
  show rdM G m σ H fun x H1 => D.nx (σ.set i (some x)) H1
  split at e1
  · rename_i d env1 hm
    split at e1
    · rename_i hlt
      cases e1
      refine ⟨fx, L, tv, env, td, .ok d, env1, c, hm, fun v H' L' c' => k _ H' _ (c'.store (fun z => ?_) (by rw [c'.len]; exact hlt))⟩
      rw [List.contains_iff_mem.mpr z] at hio
      cases hio
    · cases e1
  · rename_i x env1 hm
    cases e1
    exact ⟨fx, L, tv, env, td, .error x, _, c, hm, fun cls dd H' L' ex c' => k cls dd σ H' L' ex c'⟩
  · cases e1
theorem xs_if {a b : List Stmt} (hc : L2.PT X c (rdT G t)) (ha : PSs X a (rdS G s)) (hb : PSs X b (rdS G u)) : PS X (.If c a b pos) (rdS G (sIf t s u)) := ps_weak (ps_if hc ha hb) fun D σ H ⟨fx, L, tv, env, td, o, env', c, e1, k⟩ => by
  unfold sIf at e1
  show rdT G t σ H fun b H1 => if b = true then rdS G s D σ H1 else rdS G u D σ H1
  split at e1
  · rename_i env1 hm
    exact ⟨fx, L, tv, env, td, .ok true, _, c, hm, fun H' L' c' => iteT ⟨fx, L', tv, env1, td, o, env', c', e1, k⟩⟩
  · rename_i env1 hm
    exact ⟨fx, L, tv, env, td, .ok false, _, c, hm, fun H' L' c' => iteF ⟨fx, L', tv, env1, td, o, env', c', e1, k⟩⟩
  · rename_i x env1 hm
    cases e1
    exact ⟨fx, L, tv, env, td, .error x, _, c, hm, fun cls dd H' L' ex c' => k cls dd σ H' L' ex c'⟩
  · cases e1

/-! ### while -/
def whileM (c : MT) (b : SM) : Nat → SM
  | 0, _ => none
  | n + 1, env => match c env with
    | some (.ok true, env1) => (match b env1 with
      | some (.next, env2) => whileM c b n env2
      | some (.cont, env2) => whileM c b n env2
      | some (.brk, env2) => some (.next, env2)
      | some (.ret d, env2) => some (.ret d, env2)
      | some (.exc x, env2) => some (.exc x, env2)
      | none => none)
    | some (.ok false, env1) => some (.next, env1)
    | some (.error x, env1) => some (.exc x, env1)
    | none => none
theorem xs_while {n : Nat} (hp : PassesOwn (model X.prog X.w) X.A X.env X.xe) (hc : L2.PT X c (rdT G t)) (hb : PSs X body (rdS G s)) : PS X (.While c body [] pos) (rdS G (whileM t s n)) := ps_weak (ps_while hp hc hb) fun D σ H ⟨fx, L, tv, env, td, o, envE, c, e1, k⟩ => by
  refine ⟨fun m σ H => ∃ L env, At G.θ G.io fx L H σ tv env td ∧ whileM t s m env = some (o, envE), ⟨n, L, env, c, e1⟩, ?_⟩
  rintro m σ H ⟨L, env, c, e1⟩
  cases m with
  | zero => cases e1
  | succ m =>
    unfold whileM at e1
    split at e1
    · rename_i env1 ht
      refine ⟨fx, L, tv, env, td, .ok true, env1, c, ht, fun H' L' c' => ?_⟩
      refine iteT ?_
      refine ⟨fun σ H => ∃ L env, At G.θ G.io fx L H σ tv env td ∧ whileM t s m env = some (o, envE), fun σ' H' q => ⟨m, Nat.lt_succ_self m, q⟩, ?_⟩
      cases hs : s env1 with
      | none => rw [hs] at e1; cases e1
      | some q =>
        obtain ⟨o1, env2⟩ := q
        rw [hs] at e1
        cases o1 with
        | next => exact ⟨fx, L', tv, env1, td, .next, env2, c', hs, fun σ' H' L' c' => ⟨L', env2, c', e1⟩⟩
        | cont => exact ⟨fx, L', tv, env1, td, .cont, env2, c', hs, fun σ' H' L' c' => ⟨L', env2, c', e1⟩⟩
        | brk => cases e1; exact ⟨fx, L', tv, env1, td, .brk, _, c', hs, k⟩
        | ret d => cases e1; exact ⟨fx, L', tv, env1, td, .ret d, _, c', hs, k⟩
        | exc x => cases e1; exact ⟨fx, L', tv, env1, td, .exc x, _, c', hs, k⟩
    · rename_i env1 ht
      cases e1
      refine ⟨fx, L, tv, env, td, .ok false, _, c, ht, fun H' L' c' => ?_⟩
      exact iteF (k σ H' L' c')
    · rename_i x env1 ht
      cases e1
      exact ⟨fx, L, tv, env, td, .error x, _, c, ht, fun cls dd H' L' ex c' => k cls dd σ H' L' ex c'⟩
    · cases e1
end
end Y

namespace Y
open PySem L2 PySem.Spec PyProof.Rows

/-! ### operations on data -/
def mulOk (i j : Int) : Bool := decide (i.natAbs.log2 + j.natAbs.log2 < 100000000)
def divOk (j : Int) : Bool := decide (0 < j) && decide (j.natAbs.log2 < 9000)
def powOk (i j : Int) : Bool := decide (0 ≤ j) && decide (j ≤ 1000000) && decide (i.natAbs < 2 ^ 64)
def lenOk (n : Nat) : Bool := decide (n ≤ sizeLine)
def addD : D → D → Option D
  | .int i, .int j => some (.int (i + j))
  | .str s, .str t => if lenOk (s.length + t.length) then some (.str (s ++ t)) else none
  | _, _ => none
def subD : D → D → Option D
  | .int i, .int j => some (.int (i - j))
  | _, _ => none
def mulD : D → D → Option D
  | .int i, .int j => if mulOk i j then some (.int (i * j)) else none
  | _, _ => none
def divD : D → D → Option D
  | .int i, .int j => if divOk j then some (.int (i / j)) else none
  | _, _ => none
def modD : D → D → Option D
  | .int i, .int j => if decide (0 < j) then some (.int (i % j)) else none
  | _, _ => none
def powD : D → D → Option D
  | .int i, .int j => if powOk i j then some (.int (i ^ j.toNat)) else none
  | _, _ => none
def ltD : D → D → Option D
  | .int i, .int j => some (.bl (decide (i < j)))
  | _, _ => none
def leD : D → D → Option D
  | .int i, .int j => some (.bl (decide (i ≤ j)))
  | _, _ => none
def gtD : D → D → Option D
  | .int i, .int j => some (.bl (decide (j < i)))
  | _, _ => none
def geD : D → D → Option D
  | .int i, .int j => some (.bl (decide (j ≤ i)))
  | _, _ => none
/-- == of what is no list, no tuple, no object -/
def eqS : D → D → Option Bool
  | .int i, .int j => some (decide (i = j))
  | .str i, .str j => some (decide (i = j))
  | .bl i, .bl j => some (decide (i = j))
  | .non, .non => some true
  | .int _, .non => some false
  | .non, .int _ => some false
  | .int _, .str _ => some false
  | .str _, .int _ => some false
  | .non, .str _ => some false
  | .str _, .non => some false
  | _, _ => none
def eqD (x y : D) : Option D := match eqS x y with | some b => some (.bl b) | none => none
def neD (x y : D) : Option D := match eqS x y with | some b => some (.bl (!b)) | none => none
def isN : D → Option D
  | .unk => none
  | .non => some (.bl true)
  | _ => some (.bl false)
def notN : D → Option D
  | .unk => none
  | .non => some (.bl false)
  | _ => some (.bl true)

section
variable {θ : Th} {L : LM} {H : Hp} {X : Cx}
theorem ExtN.refl {n : Nat} (ok : LabOk L H) : ExtN n L H L H := (Ext.refl ok).toN n
theorem mulOk_ok {i j : Int} (h : mulOk i j = true) : IntMulOk i j := by
  have b : ∀ x : Int, Builtin.Int.intBits x ≤ x.natAbs.log2 + 1 := fun x => by
    unfold Builtin.Int.intBits
    split <;> omega
  have h1 := b i
  have h2 := b j
  have h3 : i.natAbs.log2 + j.natAbs.log2 < 100000000 := of_decide_eq_true h
  have e : bitsLine = 134217728 := by decide
  unfold IntMulOk
  intro z
  rw [Bool.and_eq_true] at z
  have z2 := z.2
  unfold Builtin.Int.intTooBig at z2
  have z3 := of_decide_eq_true z2
  rw [e] at z3
  omega
theorem of_add : OpF X θ (binaryOp .Add) addD := by
  intro pins s σ H x y v u Q I rx ry ⟨n, L, π, π', dx, dy, d, ok, ox, oy, hf, k⟩
  unfold addD at hf
  split at hf
  · cases hf; cases ox; cases oy
    exact op_add pins s σ H _ _ v u Q I rx ry ⟨_, _, rfl, rfl, k _ H L (ExtN.refl ok) .int⟩
  · split at hf
    · rename_i z
      cases hf; cases ox; cases oy
      exact op_add_str pins s σ H _ _ v u Q I rx ry ⟨_, _, rfl, rfl, of_decide_eq_true z, k _ H L (ExtN.refl ok) .str⟩
    · cases hf
  · cases hf
theorem of_sub : OpF X θ (binaryOp .Sub) subD := by
  intro pins s σ H x y v u Q I rx ry ⟨n, L, π, π', dx, dy, d, ok, ox, oy, hf, k⟩
  unfold subD at hf
  split at hf
  · cases hf; cases ox; cases oy
    exact op_sub pins s σ H _ _ v u Q I rx ry ⟨_, _, rfl, rfl, k _ H L (ExtN.refl ok) .int⟩
  · cases hf
theorem op_mulX : OpR X (binaryOp .Mult) (rI (fun i j => mulOk i j = true) fun i j => .int (i * j)) := opI fun _ _ _ _ _ _ _ hc q => mul_int q (mulOk_ok hc)
theorem of_mul : OpF X θ (binaryOp .Mult) mulD := by
  intro pins s σ H x y v u Q I rx ry ⟨n, L, π, π', dx, dy, d, ok, ox, oy, hf, k⟩
  unfold mulD at hf
  split at hf
  · split at hf
    · rename_i z
      cases hf; cases ox; cases oy
      exact op_mulX pins s σ H _ _ v u Q I rx ry ⟨_, _, rfl, rfl, z, k _ H L (ExtN.refl ok) .int⟩
    · cases hf
  · cases hf
theorem of_div : OpF X θ (binaryOp .FloorDiv) divD := by
  intro pins s σ H x y v u Q I rx ry ⟨n, L, π, π', dx, dy, d, ok, ox, oy, hf, k⟩
  unfold divD at hf
  split at hf
  · split at hf
    · rename_i z
      cases hf; cases ox; cases oy
      unfold divOk at z
      rw [Bool.and_eq_true, decide_eq_true_eq, decide_eq_true_eq] at z
      exact op_fdivW pins s σ H _ _ v u Q I rx ry ⟨_, _, rfl, rfl, z, k _ H L (ExtN.refl ok) .int⟩
    · cases hf
  · cases hf
theorem of_mod : OpF X θ (binaryOp .Mod) modD := by
  intro pins s σ H x y v u Q I rx ry ⟨n, L, π, π', dx, dy, d, ok, ox, oy, hf, k⟩
  unfold modD at hf
  split at hf
  · split at hf
    · rename_i z
      cases hf; cases ox; cases oy
      exact op_mod pins s σ H _ _ v u Q I rx ry ⟨_, _, rfl, rfl, of_decide_eq_true z, k _ H L (ExtN.refl ok) .int⟩
    · cases hf
  · cases hf
theorem of_pow : OpF X θ (binaryOp .Pow) powD := by
  intro pins s σ H x y v u Q I rx ry ⟨n, L, π, π', dx, dy, d, ok, ox, oy, hf, k⟩
  unfold powD at hf
  split at hf
  · split at hf
    · rename_i z
      cases hf; cases ox; cases oy
      unfold powOk at z
      rw [Bool.and_eq_true, Bool.and_eq_true, decide_eq_true_eq, decide_eq_true_eq, decide_eq_true_eq] at z
      exact op_pow pins s σ H _ _ v u Q I rx ry ⟨_, _, rfl, rfl, ⟨z.1.1, z.1.2, z.2⟩, k _ H L (ExtN.refl ok) .int⟩
    · cases hf
  · cases hf
theorem of_lt : OpF X θ (compareOp .Lt) ltD := by
  intro pins s σ H x y v u Q I rx ry ⟨n, L, π, π', dx, dy, d, ok, ox, oy, hf, k⟩
  unfold ltD at hf
  split at hf
  · cases hf; cases ox; cases oy
    exact op_lt pins s σ H _ _ v u Q I rx ry ⟨_, _, rfl, rfl, k _ H L (ExtN.refl ok) .bl⟩
  · cases hf
theorem of_le : OpF X θ (compareOp .LtE) leD := by
  intro pins s σ H x y v u Q I rx ry ⟨n, L, π, π', dx, dy, d, ok, ox, oy, hf, k⟩
  unfold leD at hf
  split at hf
  · cases hf; cases ox; cases oy
    exact op_le pins s σ H _ _ v u Q I rx ry ⟨_, _, rfl, rfl, k _ H L (ExtN.refl ok) .bl⟩
  · cases hf
theorem of_gt : OpF X θ (compareOp .Gt) gtD := by
  intro pins s σ H x y v u Q I rx ry ⟨n, L, π, π', dx, dy, d, ok, ox, oy, hf, k⟩
  unfold gtD at hf
  split at hf
  · cases hf; cases ox; cases oy
    exact op_gt pins s σ H _ _ v u Q I rx ry ⟨_, _, rfl, rfl, k _ H L (ExtN.refl ok) .bl⟩
  · cases hf
theorem of_ge : OpF X θ (compareOp .GtE) geD := by
  intro pins s σ H x y v u Q I rx ry ⟨n, L, π, π', dx, dy, d, ok, ox, oy, hf, k⟩
  unfold geD at hf
  split at hf
  · cases hf; cases ox; cases oy
    exact op_ge pins s σ H _ _ v u Q I rx ry ⟨_, _, rfl, rfl, k _ H L (ExtN.refl ok) .bl⟩
  · cases hf
theorem eqS_ok {π π' : Option (List Nat)} {x y : V} {dx dy : D} {b : Bool} (ox : Own θ L H π x dx) (oy : Own θ L H π' y dy) (h : eqS dx dy = some b) : scal x y = true ∧ b = decide (x = y) := by
  unfold eqS at h
  split at h <;> first
    | (cases h; cases ox; cases oy; exact ⟨rfl, by simp⟩)
    | cases h
theorem of_eq : OpF X θ (compareOp .Eq) eqD := by
  intro pins s σ H x y v u Q I rx ry ⟨n, L, π, π', dx, dy, d, ok, ox, oy, hf, k⟩
  unfold eqD at hf
  split at hf
  · rename_i b hb
    cases hf
    obtain ⟨h1, h2⟩ := eqS_ok ox oy hb
    exact op_eq pins s σ H _ _ v u Q I rx ry ⟨h1, by rw [← h2]; exact k _ H L (ExtN.refl ok) .bl⟩
  · cases hf
theorem of_ne : OpF X θ (compareOp .NotEq) neD := by
  intro pins s σ H x y v u Q I rx ry ⟨n, L, π, π', dx, dy, d, ok, ox, oy, hf, k⟩
  unfold neD at hf
  split at hf
  · rename_i b hb
    cases hf
    obtain ⟨h1, h2⟩ := eqS_ok ox oy hb
    exact op_ne pins s σ H _ _ v u Q I rx ry ⟨h1, by rw [← h2]; exact k _ H L (ExtN.refl ok) .bl⟩
  · cases hf
/-- the second one is None, as written -/
def isND (x y : D) : Option D := match y with | .non => isN x | _ => none
def notND (x y : D) : Option D := match y with | .non => notN x | _ => none
theorem own_non {π : Option (List Nat)} {x : V} {dx : D} (ox : Own θ L H π x dx) (h : dx ≠ .unk) : decide (x = .non) = (match dx with | .non => true | _ => false) := by
  cases ox <;> first
    | exact absurd rfl h
    | (simp; done)
    | rfl
theorem of_isN : OpF X θ (compareOp .Is) isND := by
  intro pins s σ H x y v u Q I rx ry ⟨n, L, π, π', dx, dy, d, ok, ox, oy, hf, k⟩
  unfold isND at hf
  split at hf
  · cases oy
    refine op_isN pins s σ H _ _ v u Q I rx ry ⟨rfl, ?_⟩
    have hu : dx ≠ .unk := by intro z; subst z; cases hf
    rw [own_non ox hu]
    cases dx <;> first | exact absurd rfl hu | (cases hf; exact k _ H L (ExtN.refl ok) .bl)
  · cases hf
theorem of_notN : OpF X θ (compareOp .IsNot) notND := by
  intro pins s σ H x y v u Q I rx ry ⟨n, L, π, π', dx, dy, d, ok, ox, oy, hf, k⟩
  unfold notND at hf
  split at hf
  · cases oy
    refine op_notN pins s σ H _ _ v u Q I rx ry ⟨rfl, ?_⟩
    have hu : dx ≠ .unk := by intro z; subst z; cases hf
    rw [own_non ox hu]
    cases dx <;> first | exact absurd rfl hu | (cases hf; exact k _ H L (ExtN.refl ok) .bl)
  · cases hf
end
/-- no operation takes what is not known -/
def NU (f : D → D → Option D) : Prop := ∀ x y z, f x y = some z → x ≠ .unk ∧ y ≠ .unk
theorem nu_of {f : D → D → Option D} (h1 : ∀ y, f .unk y = none) (h2 : ∀ x, f x .unk = none) : NU f := fun x y z h => ⟨(fun e => by subst e; rw [h1] at h; cases h), (fun e => by subst e; rw [h2] at h; cases h)⟩
theorem nu_add : NU addD := nu_of (fun y => by cases y <;> rfl) (fun x => by cases x <;> rfl)
theorem nu_sub : NU subD := nu_of (fun y => by cases y <;> rfl) (fun x => by cases x <;> rfl)
theorem nu_mul : NU mulD := nu_of (fun y => by cases y <;> rfl) (fun x => by cases x <;> rfl)
theorem nu_div : NU divD := nu_of (fun y => by cases y <;> rfl) (fun x => by cases x <;> rfl)
theorem nu_mod : NU modD := nu_of (fun y => by cases y <;> rfl) (fun x => by cases x <;> rfl)
theorem nu_pow : NU powD := nu_of (fun y => by cases y <;> rfl) (fun x => by cases x <;> rfl)
theorem nu_lt : NU ltD := nu_of (fun y => by cases y <;> rfl) (fun x => by cases x <;> rfl)
theorem nu_le : NU leD := nu_of (fun y => by cases y <;> rfl) (fun x => by cases x <;> rfl)
theorem nu_gt : NU gtD := nu_of (fun y => by cases y <;> rfl) (fun x => by cases x <;> rfl)
theorem nu_ge : NU geD := nu_of (fun y => by cases y <;> rfl) (fun x => by cases x <;> rfl)
theorem nu_eq : NU eqD := nu_of (fun y => by cases y <;> rfl) (fun x => by cases x <;> rfl)
theorem nu_ne : NU neD := nu_of (fun y => by cases y <;> rfl) (fun x => by cases x <;> rfl)
theorem nu_isN : NU isND := nu_of (fun y => by cases y <;> rfl) (fun x => by cases x <;> rfl)
theorem nu_notN : NU notND := nu_of (fun y => by cases y <;> rfl) (fun x => by cases x <;> rfl)
end Y

namespace Y
open PySem L2 PySem.Spec PyProof.Rows

/-! ### argument lists that change nothing -/
abbrev PL := List D → Option (List D)
abbrev OwA (θ : Th) (L : LM) (H : Hp) : List V → List D → Prop := Paired (fun v d => ∃ π, Own θ L H π v d)
def rdPL (θ : Th) (io : List Nat) (p : PL) : TA := fun σ H Q => ∃ fx L tv env td ds, At θ io fx L H σ tv env td ∧ p env = some ds ∧ ∀ vs H' L', Ext L H L' H' → OwA θ L' H' vs ds → Q vs H'
def plNil : PL := fun _ => some []
def plCons (p : P) (r : PL) : PL := fun env => match p env with | some d => (match r env with | some ds => some (d :: ds) | none => none) | none => none
theorem OwA.ext {θ : Th} {L L' : LM} {H H' : Hp} (x : Ext L H L' H') (ok : LabOk L H) : ∀ {vs : List V} {ds : List D}, OwA θ L H vs ds → OwA θ L' H' vs ds
  | _, _, .nil => .nil
  | _, _, .cons ⟨π, a⟩ b => .cons ⟨π, a.ext x ok⟩ (OwA.ext x ok b)
theorem OwA.frz {θ : Th} {L : LM} {H : Hp} : ∀ {k : Nat} {vs : List V} {ds : List D}, OwA θ L H vs ds → D.frzs ds = true → Owns θ L H none k vs ds
  | _, _, _, .nil, _ => .nil
  | k, _, _, .cons ⟨π, a⟩ b, h => by
    rw [D.frzs, Bool.and_eq_true] at h
    exact .cons (a.frozen h.1) (OwA.frz b h.2)
section
variable {X : Cx} {θ : Th} {io : List Nat} {G : Gc} {e a b c : Expr} {es : List Expr} {pos : Pos} {p q : P} {pl : PL} {m m' : M} {ma : MA}
theorem xpl_nil : PA X [] (rdPL θ io plNil) := pa_weak pa_nil fun σ H Q ⟨fx, L, tv, env, td, ds, c, e1, k⟩ => by
  cases e1
  exact k [] H L (Ext.refl c.cr.lab) .nil
theorem xpl_cons (ha : PE X e (rdP θ io p)) (hr : PA X es (rdPL θ io pl)) (hs : starEach (e :: es) X.env = (false, eval e X.env) :: starEach es X.env := by rfl) : PA X (e :: es) (rdPL θ io (plCons p pl)) :=
  pa_weak (pa_cons ha hr hs) fun σ H Q ⟨fx, L, tv, env, td, ds, c, e1, k⟩ => by
    show rdP θ io p σ H fun x H1 => rdPL θ io pl σ H1 fun xs H2 => Q (x :: xs) H2
    unfold plCons at e1
    cases hp : p env with
    | none => rw [hp] at e1; cases e1
    | some d =>
      cases hr : pl env with
      | none => rw [hp, hr] at e1; cases e1
      | some r =>
        rw [hp, hr] at e1
        cases e1
        refine ⟨fx, L, tv, env, td, d, c, hp, fun v H1 L1 π x1 o1 => ?_⟩
        refine ⟨fx, L1, tv, env, td, r, c.ext x1, hr, fun vs H2 L2 x2 o2 => ?_⟩
        exact k (v :: vs) H2 L2 (x1.trans x2) (.cons ⟨π, o1.ext x2 (x1.labOk c.cr.lab)⟩ o2)

/-! ### built-in functions by values -/
def rB (θ : Th) (f : List D → Option D) : List V → Hp → VK → Prop := fun vs H Q => ∃ n L ds d, LabOk L H ∧ OwA θ L H vs ds ∧ f ds = some d ∧ ∀ v H' L', ExtN n L H L' H' → Own θ L' H' (some [n]) v d → Q v H'
abbrev BF (X : Cx) (θ : Th) (g : Value) (f : List D → Option D) : Prop := CallR X g (rB θ f)
def pB (f : List D → Option D) (p : PL) : P := fun env => match p env with | some ds => (match f ds with | some d => if d.frz then some d else none | none => none) | none => none
theorem rd_b {f : List D → Option D} {σ : L2.St} {H : Hp} {Q : VK} (h : rdP θ io (pB f pl) σ H Q) : tCB (rB θ f) (rdPL θ io pl) σ H Q := by
  obtain ⟨fx, L, tv, env, td, d, c, e1, k⟩ := h
  show rdPL θ io pl σ H fun vs H1 => rB θ f vs H1 Q
  unfold pB at e1
  cases hp : pl env with
  | none => rw [hp] at e1; cases e1
  | some ds =>
    rw [hp] at e1
    simp only at e1
    cases hf : f ds with
    | none => rw [hf] at e1; cases e1
    | some d' =>
      rw [hf] at e1
      simp only at e1
      split at e1
      · rename_i hz
        cases e1
        refine ⟨fx, L, tv, env, td, ds, c, hp, fun vs H1 L1 x1 o1 => ⟨0, L1, ds, d, x1.labOk c.cr.lab, o1, hf, fun v H2 L2 x2 o2 => ?_⟩⟩
        obtain ⟨L3, x3, o3⟩ := x2.froz o2 hz
        exact k v H2 L3 none (x1.trans x3) o3
      · cases e1
theorem xp_b {x : Str} {pf : Pos} {id : String} {f : List D → Option D} (hc : BF X θ (.builtin id) f) (hg : Gl X x) (hm : X.mg x = none) (hv : bootBuiltins x = some (.builtin id)) (ha : PA X (e :: es) (rdPL θ io pl)) (hn : x ≠ "__name__" := by decide) (hdb : (x == ("__debug__" : Str)) = false := by decide)
    (he : starEach (e :: es) X.env = (false, eval e X.env) :: starEach es X.env := by rfl) (hpl : (backTo pos (starEach es X.env)).any (·.1) = false := by rfl) : PE X (.Call (.Name x pf) (e :: es) [] pos) (rdP θ io (pB f pl)) :=
  pe_weak (pe_callB hc hg hm hv ha hn hdb he hpl) fun _ _ _ h => rd_b h
theorem xp_ty {x : Str} {pf : Pos} {T : String} {f : List D → Option D} (hc : BF X θ (.type T) f) (hg : Gl X x) (hm : X.mg x = none) (hv : bootBuiltins x = some (.type T)) (ha : PA X (e :: es) (rdPL θ io pl)) (hn : x ≠ "__name__" := by decide) (hdb : (x == ("__debug__" : Str)) = false := by decide)
    (he : starEach (e :: es) X.env = (false, eval e X.env) :: starEach es X.env := by rfl) (hpl : (backTo pos (starEach es X.env)).any (·.1) = false := by rfl) : PE X (.Call (.Name x pf) (e :: es) [] pos) (rdP θ io (pB f pl)) :=
  pe_weak (pe_callTy hc hg hm hv ha hn hdb he hpl) fun _ _ _ h => rd_b h
/-- .. with a new value that is owned: the arguments change nothing -/
def mBP (f : List D → Option D) (p : PL) : M := fun env => match p env with | some ds => (match f ds with | some d => some (.ok d, env) | none => none) | none => none
theorem rd_bp {f : List D → Option D} {σ : L2.St} {H : Hp} {Q : VK} (h : rdM G (mBP f pl) σ H Q) : tCB (rB G.θ f) (rdPL G.θ G.io pl) σ H Q := by
  obtain ⟨fx, L, tv, env, td, r, env', c, e1, k⟩ := h
  show rdPL G.θ G.io pl σ H fun vs H1 => rB G.θ f vs H1 Q
  unfold mBP at e1
  cases hp : pl env with
  | none => rw [hp] at e1; cases e1
  | some ds =>
    rw [hp] at e1
    simp only at e1
    cases hf : f ds with
    | none => rw [hf] at e1; cases e1
    | some d' =>
      rw [hf] at e1
      cases e1
      refine ⟨fx, L, tv, env, td, ds, c, hp, fun vs H1 L1 x1 o1 => ⟨(σ ++ tv).length, L1, ds, d', x1.labOk c.cr.lab, o1, hf, fun v H2 L2 x2 o2 => ?_⟩⟩
      exact k v H2 L2 (((c.ext x1).extN x2).push o2)
theorem xm_bp {x : Str} {pf : Pos} {id : String} {f : List D → Option D} (hc : BF X G.θ (.builtin id) f) (hg : Gl X x) (hm : X.mg x = none) (hv : bootBuiltins x = some (.builtin id)) (ha : PA X (e :: es) (rdPL G.θ G.io pl)) (hn : x ≠ "__name__" := by decide) (hdb : (x == ("__debug__" : Str)) = false := by decide)
    (he : starEach (e :: es) X.env = (false, eval e X.env) :: starEach es X.env := by rfl) (hpl : (backTo pos (starEach es X.env)).any (·.1) = false := by rfl) : PE X (.Call (.Name x pf) (e :: es) [] pos) (rdM G (mBP f pl)) :=
  pe_weak (pe_callB hc hg hm hv ha hn hdb he hpl) fun _ _ _ h => rd_bp h
theorem xm_typ {x : Str} {pf : Pos} {T : String} {f : List D → Option D} (hc : BF X G.θ (.type T) f) (hg : Gl X x) (hm : X.mg x = none) (hv : bootBuiltins x = some (.type T)) (ha : PA X (e :: es) (rdPL G.θ G.io pl)) (hn : x ≠ "__name__" := by decide) (hdb : (x == ("__debug__" : Str)) = false := by decide)
    (he : starEach (e :: es) X.env = (false, eval e X.env) :: starEach es X.env := by rfl) (hpl : (backTo pos (starEach es X.env)).any (·.1) = false := by rfl) : PE X (.Call (.Name x pf) (e :: es) [] pos) (rdM G (mBP f pl)) :=
  pe_weak (pe_callTy hc hg hm hv ha hn hdb he hpl) fun _ _ _ h => rd_bp h
/-- .. of arguments of any make -/
def mB (f : List D → Option D) (a : MA) : M := fun env => match a env with
  | some (.ok ds, env1) => if noUnk ds then (match f (D.frs ds) with | some d => some (.ok d, env1) | none => none) else none
  | some (.error x, env1) => some (.error x, env1)
  | none => none
theorem Owns.toA {θ : Th} {L : LM} {H : Hp} {π : Option (List Nat)} : ∀ {k : Nat} {vs : List V} {ds : List D}, Owns θ L H π k vs ds → OwA θ L H vs ds
  | _, _, _, .nil => .nil
  | _, _, _, .cons a b => .cons ⟨_, a⟩ (Owns.toA b)
theorem rd_bm {f : List D → Option D} {σ : L2.St} {H : Hp} {Q : VK} (h : rdM G (mB f ma) σ H Q) : tCB (rB G.θ f) (rdA G ma) σ H Q := by
  obtain ⟨fx, L, tv, env, td, r, env', c, e1, k⟩ := h
  show rdA G ma σ H fun vs H1 => rB G.θ f vs H1 Q
  unfold mB at e1
  split at e1
  · rename_i ds env1 hm
    split at e1
    · rename_i hu
      cases hf : f (D.frs ds) with
      | none => rw [hf] at e1; cases e1
      | some d =>
        rw [hf] at e1
        cases e1
        refine ⟨fx, L, tv, env, td, .ok ds, _, c, hm, fun vs H1 L1 hl c1 => ?_⟩
        obtain ⟨c2, o2⟩ := c1.args hl hu
        refine ⟨(σ ++ tv).length, _, D.frs ds, d, c2.cr.lab, o2.toA, hf, fun v H2 L2 x2 o3 => ?_⟩
        exact k v H2 L2 ((c2.extN x2).push o3)
    · cases e1
  · rename_i x env1 hm
    cases e1
    exact ⟨fx, L, tv, env, td, .error x, _, c, hm, k⟩
  · cases e1
theorem xm_b {x : Str} {pf : Pos} {id : String} {f : List D → Option D} (hc : BF X G.θ (.builtin id) f) (hg : Gl X x) (hm : X.mg x = none) (hv : bootBuiltins x = some (.builtin id)) (ha : PA X (e :: es) (rdA G ma)) (hn : x ≠ "__name__" := by decide) (hdb : (x == ("__debug__" : Str)) = false := by decide)
    (he : starEach (e :: es) X.env = (false, eval e X.env) :: starEach es X.env := by rfl) (hpl : (backTo pos (starEach es X.env)).any (·.1) = false := by rfl) : PE X (.Call (.Name x pf) (e :: es) [] pos) (rdM G (mB f ma)) :=
  pe_weak (pe_callB hc hg hm hv ha hn hdb he hpl) fun _ _ _ h => rd_bm h
theorem xm_ty {x : Str} {pf : Pos} {T : String} {f : List D → Option D} (hc : BF X G.θ (.type T) f) (hg : Gl X x) (hm : X.mg x = none) (hv : bootBuiltins x = some (.type T)) (ha : PA X (e :: es) (rdA G ma)) (hn : x ≠ "__name__" := by decide) (hdb : (x == ("__debug__" : Str)) = false := by decide)
    (he : starEach (e :: es) X.env = (false, eval e X.env) :: starEach es X.env := by rfl) (hpl : (backTo pos (starEach es X.env)).any (·.1) = false := by rfl) : PE X (.Call (.Name x pf) (e :: es) [] pos) (rdM G (mB f ma)) :=
  pe_weak (pe_callTy hc hg hm hv ha hn hdb he hpl) fun _ _ _ h => rd_bm h

/-! ### displays -/
def pTup (p : PL) : P := fun env => match p env with | some ds => if D.frzs ds && lenOk ds.length then some (.tup ds) else none | none => none
theorem OwA.len {L : LM} {H : Hp} {vs : List V} {ds : List D} (h : OwA θ L H vs ds) : vs.length = ds.length := Paired.length h
theorem xp_tup {x1} (h : PA X es (rdPL θ io pl)) : PE X (.Tuple es x1 pos) (rdP θ io (pTup pl)) := pe_weak (pe_tup h) fun σ H Q ⟨fx, L, tv, env, td, d, c, e1, k⟩ => by
  show rdPL θ io pl σ H fun xs H1 => xs.length ≤ sizeLine ∧ ∀ p, H1 p = none → Q (.ref p) (upd H1 p (.tup xs))
  unfold pTup at e1
  cases hp : pl env with
  | none => rw [hp] at e1; cases e1
  | some ds =>
    rw [hp] at e1
    simp only at e1
    split at e1
    · rename_i hz
      cases e1
      rw [Bool.and_eq_true] at hz
      refine ⟨fx, L, tv, env, td, ds, c, hp, fun vs H1 L1 x1 o1 => ⟨by rw [o1.len]; exact of_decide_eq_true hz.2, fun p np => ?_⟩⟩
      have ok1 := x1.labOk c.cr.lab
      have x2 := ext_new (o := .tup vs) ok1 np
      exact k _ _ _ none (x1.trans x2) (.tup setL_same upd_same ((o1.frz hz.1).ext x2 ok1))
    · cases e1
def mTup (a : MA) : M := fun env => match a env with
  | some (.ok ds, env1) => if noUnk ds && lenOk ds.length then some (.ok (.tup (D.frs ds)), env1) else none
  | some (.error x, env1) => some (.error x, env1)
  | none => none
theorem xm_tup {x1} (h : PA X es (rdA G ma)) : PE X (.Tuple es x1 pos) (rdM G (mTup ma)) := pe_weak (pe_tup h) fun σ H Q ⟨fx, L, tv, env, td, r, env', c, e1, k⟩ => by
  show rdA G ma σ H fun xs H1 => xs.length ≤ sizeLine ∧ ∀ p, H1 p = none → Q (.ref p) (upd H1 p (.tup xs))
  unfold mTup at e1
  split at e1
  · rename_i ds env1 hm
    split at e1
    · rename_i hz
      cases e1
      rw [Bool.and_eq_true] at hz
      refine ⟨fx, L, tv, env, td, .ok ds, _, c, hm, fun vs H1 L1 hl c1 => ⟨by rw [hl]; exact of_decide_eq_true hz.2, fun p np => ?_⟩⟩
      obtain ⟨c2, o2⟩ := c1.args hl hz.1
      have x2 := ext_new (o := .tup vs) c2.cr.lab np
      exact k _ _ _ ((c2.ext x2).push (.tup setL_same upd_same (o2.ext x2 c2.cr.lab)))
    · cases e1
  · rename_i x env1 hm
    cases e1
    exact ⟨fx, L, tv, env, td, .error x, _, c, hm, k⟩
  · cases e1
/-- a new list; its items are frozen -/
def mLst (a : MA) : M := fun env => match a env with
  | some (.ok ds, env1) => if noUnk ds && lenOk ds.length then some (.ok (.lst true (D.frs ds)), env1) else none
  | some (.error x, env1) => some (.error x, env1)
  | none => none
theorem xm_lst (h : PA X es (rdA G ma)) : PE X (.List es pos) (rdM G (mLst ma)) := pe_weak (pe_lst h) fun σ H Q ⟨fx, L, tv, env, td, r, env', c, e1, k⟩ => by
  show rdA G ma σ H fun xs H1 => xs.length ≤ sizeLine ∧ ∀ p, H1 p = none → Q (.ref p) (upd H1 p (.lst xs))
  unfold mLst at e1
  split at e1
  · rename_i ds env1 hm
    split at e1
    · rename_i hz
      cases e1
      rw [Bool.and_eq_true] at hz
      refine ⟨fx, L, tv, env, td, .ok ds, _, c, hm, fun vs H1 L1 hl c1 => ⟨by rw [hl]; exact of_decide_eq_true hz.2, fun p np => ?_⟩⟩
      obtain ⟨c2, o2⟩ := c1.args hl hz.1
      have x2 := ext_newN (n := (σ ++ tv).length) (τ := []) (o := .lst vs) c2.cr.lab np
      exact k _ _ _ ((c2.extN x2).push (.lstO setL_same upd_same ((o2.extN x2 c2.cr.lab).any _)))
    · cases e1
  · rename_i x env1 hm
    cases e1
    exact ⟨fx, L, tv, env, td, .error x, _, c, hm, k⟩
  · cases e1
/-- a list display as an expression that is only read: its list stays frozen -/
def pLst (p : PL) : P := fun env => match p env with | some ds => if D.frzs ds && lenOk ds.length then some (.lst false ds) else none | none => none
theorem xp_lst (h : PA X es (rdPL θ io pl)) : PE X (.List es pos) (rdP θ io (pLst pl)) := pe_weak (pe_lst h) fun σ H Q ⟨fx, L, tv, env, td, d, c, e1, k⟩ => by
  show rdPL θ io pl σ H fun xs H1 => xs.length ≤ sizeLine ∧ ∀ p, H1 p = none → Q (.ref p) (upd H1 p (.lst xs))
  unfold pLst at e1
  cases hp : pl env with
  | none => rw [hp] at e1; cases e1
  | some ds =>
    rw [hp] at e1
    simp only at e1
    split at e1
    · rename_i hz
      cases e1
      rw [Bool.and_eq_true] at hz
      refine ⟨fx, L, tv, env, td, ds, c, hp, fun vs H1 L1 x1 o1 => ⟨by rw [o1.len]; exact of_decide_eq_true hz.2, fun p np => ?_⟩⟩
      have ok1 := x1.labOk c.cr.lab
      have x2 := ext_new (o := .lst vs) ok1 np
      exact k _ _ _ none (x1.trans x2) (.lstF setL_same upd_same ((o1.frz hz.1).ext x2 ok1))
    · cases e1
end
end Y

namespace Y
open PySem L2 PySem.Spec PyProof.Rows

section
variable {θ : Th} {L : LM} {H : Hp}
theorem Own.seqL {π : Option (List Nat)} {v : V} {o : Bool} {ds : List D} (h : Own θ L H π v (.lst o ds)) : ∃ a vs π', v = .ref a ∧ SqL θ.K H a vs ∧ Owns θ L H π' 0 vs ds := by
  cases h with
  | lstF e r os => exact ⟨_, _, _, rfl, .of r, os⟩
  | lstO e r os => exact ⟨_, _, _, rfl, .of r, os⟩
theorem Own.seqT {π : Option (List Nat)} {v : V} {ds : List D} (h : Own θ L H π v (.tup ds)) : ∃ a vs, v = .ref a ∧ SqT θ.K H a vs ∧ Owns θ L H none 0 vs ds := by
  cases h with
  | tup e r os => exact ⟨_, _, rfl, .of r, os⟩
  | tupK h1 h2 h3 h4 h5 os => exact ⟨_, _, rfl, .inr ⟨_, _, _, h1, h2, h3, h4, h5⟩, os⟩
theorem Own.seqR {π : Option (List Nat)} {v : V} {ds : List D} (h : Own θ L H π v (.scr ds)) : ∃ a vs, v = .ref a ∧ SqL θ.K H a vs ∧ Owns θ L H none 0 vs ds := by
  cases h with
  | scr e r os => exact ⟨_, _, rfl, .inl r, os⟩
  | scrK h1 h2 h3 h4 h5 h6 os => exact ⟨_, _, rfl, .inr ⟨_, _, _, h1, h2, h3, h4, h5, h6⟩, os⟩
end

/-! ### subscripts -/
def ixD : D → D → Option D
  | .lst _ xs, .int i => atI xs i
  | .tup xs, .int i => atI xs i
  | .scr xs, .int i => atI xs i
  | .str s, .int i => if lenOk s.length then (match atI s.cps.toList i with | some c => some (.str ⟨#[c]⟩) | none => none) else none
  | _, _ => none
theorem atI_some {α : Type} {xs : List α} {i : Int} {x : α} (h : atI xs i = some x) : ∃ j, ixN xs.length i = some j ∧ xs[j]? = some x := by
  unfold atI at h
  cases e : ixN xs.length i with
  | none => rw [e] at h; cases h
  | some j => rw [e] at h; exact ⟨j, rfl, h⟩
theorem atI_of {α : Type} {xs : List α} {i : Int} {j : Nat} {x : α} (h : ixN xs.length i = some j) (e : xs[j]? = some x) : atI xs i = some x := by
  unfold atI
  rw [h]
  exact e
/-- an item of a sequence, by values -/
def rIxD (θ : Th) : R2 := fun x y H Q => ∃ L π π' dx dy d, LabOk L H ∧ Own θ L H π x dx ∧ Own θ L H π' y dy ∧ ixD dx dy = some d ∧ ∀ v π, Own θ L H π v d → Q v H
theorem ix_d {X : Cx} {θ : Th} (hK : X.K = θ.K) : IxR X (rIxD θ) := by
  intro ve se pins s σ H x y v u Q I rx ry ⟨L, π, π', dx, dy, d, ok, ox, oy, hf, k⟩ hs
  unfold ixD at hf
  split at hf
  · obtain ⟨a, vs, π2, rfl, sq, os⟩ := ox.seqL
    cases oy
    obtain ⟨j, e1, e2⟩ := atI_some hf
    obtain ⟨w, e3, o3⟩ := os.get e2
    exact ix_list ve se pins s σ H _ _ v u Q I rx ry ⟨a, vs, _, w, rfl, rfl, by rw [hK]; exact sq, atI_of (by rw [os.length]; exact e1) e3, k w _ o3⟩ hs
  · obtain ⟨a, vs, rfl, sq, os⟩ := ox.seqT
    cases oy
    obtain ⟨j, e1, e2⟩ := atI_some hf
    obtain ⟨w, e3, o3⟩ := os.get e2
    exact ix_tup ve se pins s σ H _ _ v u Q I rx ry ⟨a, vs, _, w, rfl, rfl, by rw [hK]; exact sq, atI_of (by rw [os.length]; exact e1) e3, k w _ o3⟩ hs
  · obtain ⟨a, vs, rfl, sq, os⟩ := ox.seqR
    cases oy
    obtain ⟨j, e1, e2⟩ := atI_some hf
    obtain ⟨w, e3, o3⟩ := os.get e2
    exact ix_list ve se pins s σ H _ _ v u Q I rx ry ⟨a, vs, _, w, rfl, rfl, by rw [hK]; exact sq, atI_of (by rw [os.length]; exact e1) e3, k w _ o3⟩ hs
  · split at hf
    · rename_i hz
      split at hf
      · rename_i c hc
        cases hf; cases ox; cases oy
        exact ix_str ve se pins s σ H _ _ v u Q I rx ry ⟨_, _, c, rfl, rfl, of_decide_eq_true hz, hc, k _ none .str⟩ hs
      · cases hf
    · cases hf
  · cases hf
def pIx (a b : P) : P := fun env => match a env with | some x => (match b env with | some y => ixD x y | none => none) | none => none
section
variable {X : Cx} {G : Gc} {θ : Th} {io : List Nat} {e a b c : Expr} {es : List Expr} {pos : Pos} {p q : P} {m m' : M}
theorem xp_ix (hK : X.K = θ.K) (ha : PE X a (rdP θ io p)) (hb : PE X b (rdP θ io q)) (hs : PlainIx b := by exact fun _ _ => rfl) : PE X (.Subscript a b pos) (rdP θ io (pIx p q)) := pe_weak (pe_ix (ix_d hK) ha hb hs) fun σ H Q ⟨fx, L, tv, env, td, d, c, e1, k⟩ => by
  show rdP θ io p σ H fun x H1 => rdP θ io q σ H1 fun y H2 => rIxD θ x y H2 Q
  unfold pIx at e1
  cases hp : p env with
  | none => rw [hp] at e1; cases e1
  | some x =>
    cases hq : q env with
    | none => rw [hp, hq] at e1; cases e1
    | some y =>
      rw [hp, hq] at e1
      refine ⟨fx, L, tv, env, td, x, c, hp, fun v H1 L1 π1 x1 o1 => ?_⟩
      refine ⟨fx, L1, tv, env, td, y, c.ext x1, hq, fun w H2 L2 π2 x2 o2 => ?_⟩
      exact ⟨L2, π1, π2, x, y, d, x2.labOk (x1.labOk c.cr.lab), o1.ext x2 (x1.labOk c.cr.lab), o2, e1, fun u π o => k u H2 L2 π (x1.trans x2) o⟩
def ixF (x y : D) : Option D := match ixD x y with | some d => if d.frz then some d else none | none => none
theorem ix_f {X : Cx} {θ : Th} (hK : X.K = θ.K) : IxR X (rF θ ixF) := by
  intro ve se pins s σ H x y v u Q I rx ry ⟨n, L, π, π', dx, dy, d, ok, ox, oy, hf, k⟩ hs
  unfold ixF at hf
  split at hf
  · rename_i d' hd
    split at hf
    · rename_i hz
      cases hf
      exact ix_d hK ve se pins s σ H x y v u Q I rx ry ⟨L, π, π', dx, dy, _, ok, ox, oy, hd, fun w π2 o => k w H L (ExtN.refl ok) ((o.frozen hz).any _)⟩ hs
    · cases hf
  · cases hf
theorem nu_ixF : NU ixF := nu_of (fun y => by cases y <;> rfl) (fun x => by cases x <;> rfl)
theorem xm_ix (hK : X.K = G.θ.K) (ha : PE X a (rdM G m)) (hb : PE X b (rdM G m')) (hs : PlainIx b := by exact fun _ _ => rfl) : PE X (.Subscript a b pos) (rdM G (mBin ixF m m')) :=
  pe_weak (pe_ix (ix_f hK) ha hb hs) fun _ _ _ h => rd_opM nu_ixF h

/-! ### attributes -/
def fldD (f : Nat) : D → Option D
  | .obj _ _ ns xs => (match ns.idxOf? f with | some j => xs[j]? | none => none)
  | _ => none
def pFld (p : P) (f : Nat) : P := fun env => match p env with | some d => fldD f d | none => none
theorem lookup_at {θ : Th} {f : Nat} (hf : f < θ.top) : ∀ {ns : List Nat} {fs : List (Str × V)} {j : Nat} {v : V}, fs.map (·.1) = ns.map θ.nm → (∀ x ∈ ns, x < θ.top) → ns.idxOf? f = some j → (fs.map (·.2))[j]? = some v → fs.lookup (θ.nm f) = some v
  | [], fs, j, v, _, _, hj, _ => by simp at hj
  | n :: ns, [], j, v, h, _, _, _ => by simp at h
  | n :: ns, (s, w) :: fs, j, v, h, hl, hj, hv => by
    have h1 : s = θ.nm n := by simpa using (List.cons.inj h).1
    have h2 : fs.map (·.1) = ns.map θ.nm := (List.cons.inj h).2
    by_cases e : n = f
    · subst e
      have : j = 0 := by simpa [List.idxOf?_cons] using hj.symm
      subst this
      simp at hv
      rw [List.lookup_cons, h1, beq_self_eq_true, hv]
    · have e' : ¬ θ.nm f = s := fun z => e (θ.inj n f (hl n List.mem_cons_self) hf (by rw [← h1, z]))
      rw [List.lookup_cons]
      have : (θ.nm f == s) = false := beq_eq_false_iff_ne.mpr e'
      rw [this]
      have e2 : (n == f) = false := beq_eq_false_iff_ne.mpr e
      rw [List.idxOf?_cons, e2] at hj
      cases q : ns.idxOf? f with
      | none => rw [q] at hj; simp at hj
      | some i =>
        rw [q] at hj
        have : j = i + 1 := by simpa using hj.symm
        subst this
        exact lookup_at hf h2 (fun x hx => hl x (List.mem_cons_of_mem _ hx)) q (by simpa using hv)
theorem Own.objP {θ : Th} {L : LM} {H : Hp} {π : Option (List Nat)} {v : V} {o : Bool} {c : Nat} {ns : List Nat} {ds : List D} (h : Own θ L H π v (.obj o c ns ds)) :
    ∃ a dx fs π', v = .ref a ∧ OF θ c ns ∧ H a = some (.ins (θ.cA c) dx fs) ∧ fs.map (·.1) = ns.map θ.nm ∧ Owns θ L H π' 0 (fs.map (·.2)) ds := by
  cases h with
  | objF cf e r n os => exact ⟨_, _, _, _, rfl, cf, r, n, os⟩
  | objO cf e r n os => exact ⟨_, _, _, _, rfl, cf, r, n, os⟩
theorem idxOf?_mem {f : Nat} : ∀ {ns : List Nat} {j : Nat}, ns.idxOf? f = some j → f ∈ ns
  | [], j, h => by simp at h
  | n :: ns, j, h => by
    by_cases e : n = f
    · subst e; exact List.mem_cons_self
    · have e2 : (n == f) = false := beq_eq_false_iff_ne.mpr e
      rw [List.idxOf?_cons, e2] at h
      cases q : ns.idxOf? f with
      | none => rw [q] at h; simp at h
      | some i => exact List.mem_cons_of_mem _ (idxOf?_mem q)
theorem xp_fld {f : Nat} {x : Str} (hK : X.K = θ.K) (hx : x = θ.nm f) (ha : PE X e (rdP θ io p)) (hb : attributeBase e x X.env (eval e X.env) = eval e X.env) : PE X (.Attribute e x pos) (rdP θ io (pFld p f)) := by
  subst hx
  refine pe_weak (pe_fld ha hb) fun σ H Q ⟨fx, L, tv, env, td, d, c, e1, k⟩ => ?_
  show rdP θ io p σ H fun x H1 => ∃ a C dx fs v, x = .ref a ∧ H1 a = some (.ins C dx fs) ∧ Cls X.K C ∧ NoAttr X.K C (θ.nm f) ∧ fs.lookup (θ.nm f) = some v ∧ Q v H1
  unfold pFld at e1
  cases hp : p env with
  | none => rw [hp] at e1; cases e1
  | some x =>
    rw [hp] at e1
    refine ⟨fx, L, tv, env, td, x, c, hp, fun v H1 L1 π1 x1 o1 => ?_⟩
    simp only at e1
    unfold fldD at e1
    split at e1
    · rename_i o cc ns xs
      split at e1
      · rename_i j hj
        obtain ⟨a, dx, fs, π', rfl, of, hH, hn, os⟩ := o1.objP
        obtain ⟨w, e3, o3⟩ := os.get e1
        have hfl := of.ns f (idxOf?_mem hj)
        exact ⟨a, θ.cA cc, dx, fs, w, rfl, hH, by rw [hK]; exact of.cf.cls, by rw [hK]; exact of.cf.no f hfl, lookup_at (θ.lt _ _ hfl) hn (fun y hy => θ.lt _ _ (of.ns y hy)) hj e3, k w H1 L1 _ x1 o3⟩
      · cases e1
    · cases e1
end

/-! ### the built-in functions -/
def lenD : List D → Option D
  | [.str s] => if lenOk s.length then some (.int s.length) else none
  | [.lst _ xs] => some (.int xs.length)
  | [.tup xs] => some (.int xs.length)
  | [.scr xs] => some (.int xs.length)
  | _ => none
def intD : List D → Option D
  | [.int i] => some (.int i)
  | [.bl b] => some (.int (if b then 1 else 0))
  | [.str s] => if decide (s.length ≤ 640) then (match PySem.intText? s with | some n => some (.int n) | none => none) else none
  | _ => none
def absD : List D → Option D
  | [.int i] => some (.int (if i < 0 then -i else i))
  | _ => none
def maxD : List D → Option D
  | [.int i, .int j] => some (.int (if j > i then j else i))
  | _ => none
def minD : List D → Option D
  | [.int i, .int j] => some (.int (if j < i then j else i))
  | [.int i, .int j, .int k] => some (.int (if k < (if j < i then j else i) then k else if j < i then j else i))
  | _ => none
def strD : List D → Option D
  | [.int i] => if decide (i.natAbs.log2 < 1920) then some (.str (toString i)) else none
  | _ => none
section
variable {X : Cx} {θ : Th}
theorem bf_len (hK : X.K = θ.K) : BF X θ (.builtin "len") lenD := by
  intro pins s σ H vs us Q I r ⟨n, L, ds, d, ok, oa, hf, k⟩
  unfold lenD at hf
  split at hf
  · split at hf
    · rename_i hz
      cases hf
      cases oa with
      | cons h t => cases t; obtain ⟨π, o⟩ := h; cases o; exact call_len pins s σ H _ us Q I r ⟨_, _, rfl, ⟨of_decide_eq_true hz, rfl⟩, k _ H L (ExtN.refl ok) .int⟩
    · cases hf
  · cases hf
    cases oa with
    | cons h t =>
      cases t
      obtain ⟨π, o⟩ := h
      obtain ⟨a, ws, π2, rfl, sq, os⟩ := o.seqL
      exact call_len pins s σ H _ us Q I r ⟨_, ws.length, rfl, .inl ⟨ws, by rw [hK]; exact sq, rfl⟩, by rw [os.length]; exact k _ H L (ExtN.refl ok) .int⟩
  · cases hf
    cases oa with
    | cons h t =>
      cases t
      obtain ⟨π, o⟩ := h
      obtain ⟨a, ws, rfl, sq, os⟩ := o.seqT
      exact call_len pins s σ H _ us Q I r ⟨_, ws.length, rfl, .inr ⟨ws, by rw [hK]; exact sq, rfl⟩, by rw [os.length]; exact k _ H L (ExtN.refl ok) .int⟩
  · cases hf
    cases oa with
    | cons h t =>
      cases t
      obtain ⟨π, o⟩ := h
      obtain ⟨a, ws, rfl, sq, os⟩ := o.seqR
      exact call_len pins s σ H _ us Q I r ⟨_, ws.length, rfl, .inl ⟨ws, by rw [hK]; exact sq, rfl⟩, by rw [os.length]; exact k _ H L (ExtN.refl ok) .int⟩
  · cases hf
theorem bf_int : BF X θ (.type "int") intD := by
  intro pins s σ H vs us Q I r ⟨n, L, ds, d, ok, oa, hf, k⟩
  unfold intD at hf
  split at hf
  · cases hf
    cases oa with
    | cons h t => cases t; obtain ⟨π, o⟩ := h; cases o; exact call_int1 pins s σ H _ us Q I r (.inl ⟨_, rfl, k _ H L (ExtN.refl ok) .int⟩)
  · cases hf
    cases oa with
    | cons h t => cases t; obtain ⟨π, o⟩ := h; cases o; exact call_int1 pins s σ H _ us Q I r (.inr ⟨_, rfl, k _ H L (ExtN.refl ok) .int⟩)
  · split at hf
    · rename_i hz
      split at hf
      · rename_i n' hn
        cases hf
        cases oa with
        | cons h t => cases t; obtain ⟨π, o⟩ := h; cases o; exact call_int_str pins s σ H _ us Q I r ⟨_, _, rfl, hn, of_decide_eq_true hz, k _ H L (ExtN.refl ok) .int⟩
      · cases hf
    · cases hf
  · cases hf
theorem bf_abs : BF X θ (.builtin "abs") absD := by
  intro pins s σ H vs us Q I r ⟨n, L, ds, d, ok, oa, hf, k⟩
  unfold absD at hf
  split at hf
  · cases hf
    cases oa with
    | cons h t => cases t; obtain ⟨π, o⟩ := h; cases o; exact call_abs pins s σ H _ us Q I r ⟨_, rfl, k _ H L (ExtN.refl ok) .int⟩
  · cases hf
theorem bf_max (hc : X.calm = true) : BF X θ (.builtin "max") maxD := by
  intro pins s σ H vs us Q I r ⟨n, L, ds, d, ok, oa, hf, k⟩
  unfold maxD at hf
  split at hf
  · cases hf
    cases oa with
    | cons h t => cases t with
      | cons h2 t2 => cases t2; obtain ⟨π, o⟩ := h; obtain ⟨π2, o2⟩ := h2; cases o; cases o2; exact call_max2 hc pins s σ H _ us Q I r ⟨_, _, rfl, k _ H L (ExtN.refl ok) .int⟩
  · cases hf
theorem bf_min (hc : X.calm = true) : BF X θ (.builtin "min") minD := by
  intro pins s σ H vs us Q I r ⟨n, L, ds, d, ok, oa, hf, k⟩
  unfold minD at hf
  split at hf
  · cases hf
    cases oa with
    | cons h t => cases t with
      | cons h2 t2 => cases t2; obtain ⟨π, o⟩ := h; obtain ⟨π2, o2⟩ := h2; cases o; cases o2; exact call_min2 hc pins s σ H _ us Q I r ⟨_, _, rfl, k _ H L (ExtN.refl ok) .int⟩
  · cases hf
    cases oa with
    | cons h t => cases t with
      | cons h2 t2 => cases t2 with
        | cons h3 t3 =>
          cases t3; obtain ⟨π, o⟩ := h; obtain ⟨π2, o2⟩ := h2; obtain ⟨π3, o3⟩ := h3; cases o; cases o2; cases o3
          cases r with
          | cons r1 r => cases r with
            | cons r2 r => cases r with
              | cons r3 r =>
                cases r
                obtain ⟨t1, rfl⟩ := r1
                obtain ⟨t2, rfl⟩ := r2
                obtain ⟨t3, rfl⟩ := r3
                refine min_three_ints (I.ok.hd hc) fun h' tk hk => ⟨_, H, I.kept hk, ?_, k _ H L (ExtN.refl ok) .int⟩
                rename_i i j l
                by_cases h1 : j < i
                · rw [if_pos h1, if_pos h1]
                  by_cases h2 : l < j
                  · rw [if_pos h2, if_pos h2]; exact ⟨_, rfl⟩
                  · rw [if_neg h2, if_neg h2]; exact ⟨_, rfl⟩
                · rw [if_neg h1, if_neg h1]
                  by_cases h2 : l < i
                  · rw [if_pos h2, if_pos h2]; exact ⟨_, rfl⟩
                  · rw [if_neg h2, if_neg h2]; exact ⟨_, rfl⟩
  · cases hf
theorem bf_str : BF X θ (.type "str") strD := by
  intro pins s σ H vs us Q I r ⟨n, L, ds, d, ok, oa, hf, k⟩
  unfold strD at hf
  split at hf
  · split at hf
    · rename_i hz
      cases hf
      cases oa with
      | cons h t => cases t; obtain ⟨π, o⟩ := h; cases o; exact call_str_int pins s σ H _ us Q I r ⟨_, rfl, of_decide_eq_true hz, k _ H L (ExtN.refl ok) .str⟩
    · cases hf
  · cases hf
end
end Y

namespace Y
open PySem L2 PySem.Spec PyProof.Rows

/-! ### targets -/
abbrev TgM := D → List D → Option (List D)
def rdG (G : Gc) (t : TgM) : TG := fun v σ H Q => ∃ fx L tv env td d env', At G.θ G.io fx L H σ (tv ++ [some v]) env (td ++ [d]) ∧ t d env = some env' ∧ ∀ σ' H' L', At G.θ G.io fx L' H' σ' tv env' td → Q σ' H'
def gN (i : Nat) : TgM := fun d env => if i < env.length then some (env.set i d) else none
def bindAll : List TgM → List D → List D → Option (List D)
  | [], [], env => some env
  | t :: ts, d :: ds, env => (match t d env with | some env1 => bindAll ts ds env1 | none => none)
  | _, _, _ => none
def rdGs (G : Gc) (ts : List TgM) : TGs := fun vs σ H Q => ∃ fx L tv env td ds env', At G.θ G.io fx L H σ (tv ++ vs.reverse.map some) env (td ++ ds.reverse) ∧ vs.length = ds.length ∧ bindAll ts ds env = some env' ∧ ∀ σ' H' L', At G.θ G.io fx L' H' σ' tv env' td → Q σ' H'
def gT (ts : List TgM) : TgM := fun d env => match d with | .tup ds => if ts.length = ds.length then bindAll ts ds env else none | _ => none
theorem pg_weak {X : Cx} {e : Expr} {t t' : TG} (h : PG X e t) (w : ∀ v σ H Q, t' v σ H Q → t v σ H Q) : PG X e t' := ⟨fun pins s σ H v u Q I r q => h.run pins s σ H v u Q I r (w v σ H Q q)⟩
theorem pgs_weak {X : Cx} {es : List Expr} {t t' : TGs} (h : PGs X es t) (w : ∀ v σ H Q, t' v σ H Q → t v σ H Q) : PGs X es t' := ⟨fun pins s σ H v u Q I r q => h.run pins s σ H v u Q I r (w v σ H Q q)⟩
theorem At.pushRev {θ : Th} {io : List Nat} {fx : Fx} {L : LM} {H : Hp} {σ : L2.St} {tv : List (Option V)} {env td : List D} (c : At θ io fx L H σ tv env td) : ∀ {k : Nat} {vs : List V} {ds : List D}, Owns θ L H none k vs ds → At θ io fx L H σ (tv ++ vs.reverse.map some) env (td ++ ds.reverse)
  | _, _, _, .nil => by simpa using c
  | _, v :: vs, d :: ds, .cons a b => by
    have := (At.pushRev c b).push (a.any _)
    simpa [List.append_assoc] using this
section
variable {X : Cx} {G : Gc} {e : Expr} {es : List Expr} {pos : Pos} {t : TgM} {ts : List TgM}
theorem xg_name {i : Nat} {x : Str} (hN : X.N.Nodup) (hi : X.N[i]? = some x) (hx : Loc X.env.scope x) (hio : G.io.contains i = false) (hf : X.fn x = true ∨ X.env.scope.names.lookup x = some .local := by first | exact .inl rfl | exact .inr rfl | assumption) : PG X (.Name x pos) (rdG G (gN i)) :=
  pg_weak (pg_name hN hi hx hf) fun v σ H Q ⟨fx, L, tv, env, td, d, env', c, e1, k⟩ => by
    unfold gN at e1
    split at e1
    · rename_i hlt
      cases e1
      refine k _ H _ (c.store (fun z => ?_) (by rw [c.len]; exact hlt))
      rw [List.contains_iff_mem.mpr z] at hio
      cases hio
    · cases e1
theorem xgs_nil : PGs X [] (rdGs G []) := pgs_weak pgs_nil fun vs σ H Q ⟨fx, L, tv, env, td, ds, env', c, hl, e1, k⟩ => by
  cases ds with
  | nil =>
    cases vs with
    | nil => cases e1; exact ⟨rfl, k σ H L (by simpa using c)⟩
    | cons => simp at hl
  | cons => cases e1
theorem xgs_cons (h1 : PG X e (rdG G t)) (h2 : PGs X es (rdGs G ts)) (hs : (assignEach (e :: es) X.env).map (·.2) = assign e X.env :: (assignEach es X.env).map (·.2) := by rfl) : PGs X (e :: es) (rdGs G (t :: ts)) :=
  pgs_weak (pgs_cons h1 h2 hs) fun vs σ H Q ⟨fx, L, tv, env, td, ds, env', c, hl, e1, k⟩ => by
    cases ds with
    | nil => cases e1
    | cons d dr =>
      cases vs with
      | nil => simp at hl
      | cons v vr =>
        refine ⟨v, vr, rfl, ?_⟩
        unfold bindAll at e1
        cases ht : t d env with
        | none => rw [ht] at e1; cases e1
        | some env1 =>
          rw [ht] at e1
          refine ⟨fx, L, tv ++ vr.reverse.map some, env, td ++ dr.reverse, d, env1, by simpa [List.append_assoc] using c, ht, fun σ1 H1 L1 c1 => ?_⟩
          exact ⟨fx, L1, tv, env1, td, dr, env', c1, by simpa using hl, e1, k⟩
theorem xg_tup {k : Nat} (hK : X.K = G.θ.K) (hc : X.calm = true) (h : PGs X es (rdGs G ts)) (hts : (assignEach es X.env).length = ts.length) (hst : (assignEach es X.env).findIdx? (·.1) = none := by rfl) : PG X (.Tuple es k pos) (rdG G (gT ts)) :=
  pg_weak (pg_tup (n := ts.length) hc h hts hst) fun v σ H Q ⟨fx, L, tv, env, td, d, env', c, e1, k⟩ => by
    unfold gT at e1
    split at e1
    · rename_i ds
      split at e1
      · rename_i hl
        obtain ⟨w, ew, o⟩ := c.top (fun z => nomatch z)
        cases ew
        obtain ⟨a, vs, rfl, sq, os⟩ := o.seqT
        refine ⟨a, vs, rfl, by rw [hK]; exact sq, by rw [os.length, hl], ?_⟩
        exact ⟨fx, L, tv, env, td, ds, env', c.pop.pushRev os, os.length, e1, k⟩
      · cases e1
    · cases e1
end
/-- target = value -/
def sAsg (t : TgM) (m : M) : SM := fun env => match m env with
  | some (.ok d, env1) => (match t d env1 with | some env2 => some (.next, env2) | none => none)
  | some (.error x, env1) => some (.exc x, env1)
  | none => none
section
variable {X : Cx} {G : Gc} {e tg : Expr} {body : List Stmt} {pos : Pos} {t : TgM} {m : M} {s : SM} {ma : MA}
theorem xs_asg (he : PE X e (rdM G m)) (hg : PG X tg (rdG G t)) (hs : swapsWithSole [tg] e pos.line X.env = pure false := by rfl) (hw : swappedStores [tg] e X.env = pure none := by rfl)
    (h1 : (assignEach [tg] X.env).map (·.2) = [assign tg X.env] := by rfl) : PS X (.Assign [tg] e pos) (rdS G (sAsg t m)) := ps_weak (ps_asg he hg hs hw h1) fun D σ H ⟨fx, L, tv, env, td, o, env', c, e1, k⟩ => by
  unfold sAsg at e1
  show rdM G m σ H fun x H1 => rdG G t x σ H1 D.nx
  split at e1
  · rename_i d env1 hm
    split at e1
    · rename_i env2 ht
      cases e1
      exact ⟨fx, L, tv, env, td, .ok d, env1, c, hm, fun v H' L' c' => ⟨fx, L', tv, env1, td, d, _, c', ht, k⟩⟩
    · cases e1
  · rename_i x env1 hm
    cases e1
    exact ⟨fx, L, tv, env, td, .error x, _, c, hm, fun cls dd H' L' ex c' => k cls dd σ H' L' ex c'⟩
  · cases e1

/-! ### loops -/
def loopL (t : TgM) (b : SM) : List D → SM
  | [], env => some (.next, env)
  | d :: r, env => (match t d env with
    | some env1 => (match b env1 with
      | some (.next, env2) => loopL t b r env2
      | some (.cont, env2) => loopL t b r env2
      | some (.brk, env2) => some (.next, env2)
      | some (.ret d, env2) => some (.ret d, env2)
      | some (.exc x, env2) => some (.exc x, env2)
      | none => none)
    | none => none)
/-- what is to be done for a loop that ends as (o, envE) -/
def LoopK (G : Gc) (fx : Fx) (tv : List (Option V)) (td : List D) (D : Ends) (o : Out) (envE : List Y.D) : Prop :=
  match o with
  | .next => ∀ σ' H' L', At G.θ G.io fx L' H' σ' tv envE td → D.nx σ' H'
  | .brk => ∀ σ' H' L', At G.θ G.io fx L' H' σ' tv envE td → D.bk σ' H'
  | .cont => ∀ σ' H' L', At G.θ G.io fx L' H' σ' tv envE td → D.ct σ' H'
  | .ret d => ∀ v σ' H' L', At G.θ G.io fx L' H' σ' (tv ++ [some v]) envE (td ++ [d]) → D.rt v H'
  | .exc x => ∀ cls dd σ' H' L', ExR G.θ L' H' cls dd x → At G.θ G.io fx L' H' σ' tv envE td → G.W cls dd σ' H'
/-- one turn: the item v is the last that is held -/
theorem loop_turn {fx : Fx} {tv : List (Option V)} {td : List Y.D} {D : Ends} {o : Out} {envE : List Y.D} (k : LoopK G fx tv td D o envE) {L : LM} {H : Hp} {σ : L2.St} {env : List Y.D} {v : V} {d : Y.D} {r : List Y.D}
    (c : At G.θ G.io fx L H σ (tv ++ [some v]) env (td ++ [d])) (e1 : loopL t s (d :: r) env = some (o, envE)) {N : L2.St → Hp → Prop} (hN : ∀ σ' H', (∃ L env, At G.θ G.io fx L H' σ' tv env td ∧ loopL t s r env = some (o, envE)) → N σ' H') :
    rdG G t v σ H fun σ2 H2 => rdS G s { D with nx := N, ct := N, bk := D.nx } σ2 H2 := by
  unfold loopL at e1
  cases ht : t d env with
  | none => rw [ht] at e1; cases e1
  | some env1 =>
    rw [ht] at e1
    refine ⟨fx, L, tv, env, td, d, env1, c, ht, fun σ1 H1 L1 c1 => ?_⟩
    simp only at e1
    cases hs : s env1 with
    | none => rw [hs] at e1; cases e1
    | some q =>
      obtain ⟨o1, env2⟩ := q
      rw [hs] at e1
      cases o1 with
      | next => exact ⟨fx, L1, tv, env1, td, .next, env2, c1, hs, fun σ' H' L' c' => hN σ' H' ⟨L', env2, c', e1⟩⟩
      | cont => exact ⟨fx, L1, tv, env1, td, .cont, env2, c1, hs, fun σ' H' L' c' => hN σ' H' ⟨L', env2, c', e1⟩⟩
      | brk => cases e1; exact ⟨fx, L1, tv, env1, td, .brk, _, c1, hs, k⟩
      | ret d => cases e1; exact ⟨fx, L1, tv, env1, td, .ret d, _, c1, hs, k⟩
      | exc x => cases e1; exact ⟨fx, L1, tv, env1, td, .exc x, _, c1, hs, k⟩
theorem drop_get {α : Type} {l : List α} {i : Nat} {x : α} (h : l[i]? = some x) : l.drop i = x :: l.drop (i + 1) := by
  obtain ⟨hi, e⟩ := List.getElem?_eq_some_iff.mp h
  rw [List.drop_eq_getElem_cons hi, e]

def rngOk (i : Int) : Bool := decide (-(2 ^ 62) ≤ i) && decide (i < 2 ^ 62)
def rngD (lo hi : Int) : List Y.D := (List.range (hi - lo).toNat).map fun (i : Nat) => Y.D.int (lo + (i : Int))
def sForR1 (a : MA) (t : TgM) (b : SM) : SM := fun env => match a env with
  | some (.ok [.int j], env1) => if rngOk j then loopL t b (rngD 0 j) env1 else none
  | some (.error x, env1) => some (.exc x, env1)
  | _ => none
def sForR2 (a : MA) (t : TgM) (b : SM) : SM := fun env => match a env with
  | some (.ok [.int i, .int j], env1) => if rngOk i && rngOk j then loopL t b (rngD i j) env1 else none
  | some (.error x, env1) => some (.exc x, env1)
  | _ => none
theorem rngD_get {lo hi : Int} {i : Nat} (h : i < (hi - lo).toNat) : (rngD lo hi)[i]? = some (.int (lo + (i : Int))) := by
  unfold rngD
  rw [List.getElem?_map, List.getElem?_range h]
  rfl
theorem rngD_len {lo hi : Int} : (rngD lo hi).length = (hi - lo).toNat := by
  unfold rngD
  rw [List.length_map, List.length_range]
theorem xs_forR1 {a : Expr} {p ipos : Pos} (hp : PassesOwn (model X.prog X.w) X.A X.env X.xe) (hc : X.calm = true) (hg : Gl X "range") (hm : X.mg "range" = none) (ha : PA X [a] (rdA G ma)) (ht : PG X tg (rdG G t)) (hb : PSs X body (rdS G s))
    (hs : starEach [a] X.env = [(false, eval a X.env)] := by rfl) (hf : ∀ x, foldedSetIterable (.Call (.Name "range" p) [a] [] ipos) X.env x = pure x := by intro _; rfl) : PS X (.For tg (.Call (.Name "range" p) [a] [] ipos) body [] pos) (rdS G (sForR1 ma t s)) :=
  ps_weak (ps_for hp hc (pi_range1 hg hm ha hs) ht hb hf) fun D σ H ⟨fx, L, tv, env, td, o, envE, c, e1, k⟩ => by
    unfold sForR1 at e1
    split at e1
    · rename_i j env1 hm1
      split at e1
      · rename_i hr
        unfold rngOk at hr
        rw [Bool.and_eq_true, decide_eq_true_eq, decide_eq_true_eq] at hr
        refine ⟨fx, L, tv, env, td, .ok [.int j], env1, c, hm1, fun vs H1 L1 hl c1 => ?_⟩
        have c2 := At.popN (by rw [List.length_map]; exact hl) c1
        obtain ⟨w, ew, ow⟩ := c1.tmps hl (i := 0) (e := .int j) rfl (fun z => nomatch z)
        cases vs with
        | nil => simp at hl
        | cons v vr =>
          cases vr with
          | cons => simp at hl
          | nil =>
            cases ew
            cases ow
            refine ⟨j, rfl, hr.1, hr.2, ?_⟩
            have hN : (j - 0).toNat = j.toNat := by rw [Int.sub_zero]
            refine for_range (lo := 0) (n := j.toNat) (fun i σ H => ∃ L env, At G.θ G.io fx L H σ tv env td ∧ loopL t s ((rngD 0 j).drop i) env = some (o, envE)) ⟨L1, env1, c2, e1⟩ ?_ ?_
            · rintro i σ2 H2 hi ⟨L2, env2, c3, e3⟩
              rw [drop_get (rngD_get (lo := 0) (hi := j) (by rw [hN]; exact hi))] at e3
              exact loop_turn (G := G) (D := D) k (c3.push .int) e3 fun σ' H' q => q
            · rintro σ2 H2 ⟨L2, env2, c3, e3⟩
              rw [List.drop_eq_nil_of_le (by rw [rngD_len, hN]; exact Nat.le_refl _)] at e3
              cases e3
              exact k σ2 H2 L2 c3
      · cases e1
    · rename_i x env1 hm1
      cases e1
      exact ⟨fx, L, tv, env, td, .error x, _, c, hm1, fun cls dd H' L' ex c' => k cls dd σ H' L' ex c'⟩
    · cases e1
theorem xs_forR2 {a b : Expr} {p ipos : Pos} (hp : PassesOwn (model X.prog X.w) X.A X.env X.xe) (hc : X.calm = true) (hg : Gl X "range") (hm : X.mg "range" = none) (ha : PA X [a, b] (rdA G ma)) (ht : PG X tg (rdG G t)) (hb : PSs X body (rdS G s))
    (hs : starEach [a, b] X.env = [(false, eval a X.env), (false, eval b X.env)] := by rfl) (hs2 : starEach [b] X.env = [(false, eval b X.env)] := by rfl) (hf : ∀ x, foldedSetIterable (.Call (.Name "range" p) [a, b] [] ipos) X.env x = pure x := by intro _; rfl) : PS X (.For tg (.Call (.Name "range" p) [a, b] [] ipos) body [] pos) (rdS G (sForR2 ma t s)) :=
  ps_weak (ps_for hp hc (pi_range2 hg hm ha hs hs2) ht hb hf) fun D σ H ⟨fx, L, tv, env, td, o, envE, c, e1, k⟩ => by
    unfold sForR2 at e1
    split at e1
    · rename_i i0 j env1 hm1
      split at e1
      · rename_i hr
        unfold rngOk at hr
        rw [Bool.and_eq_true, Bool.and_eq_true, Bool.and_eq_true, decide_eq_true_eq, decide_eq_true_eq, decide_eq_true_eq, decide_eq_true_eq] at hr
        refine ⟨fx, L, tv, env, td, .ok [.int i0, .int j], env1, c, hm1, fun vs H1 L1 hl c1 => ?_⟩
        have c2 := At.popN (by rw [List.length_map]; exact hl) c1
        obtain ⟨w, ew, ow⟩ := c1.tmps hl (i := 0) (e := .int i0) rfl (fun z => nomatch z)
        obtain ⟨w2, ew2, ow2⟩ := c1.tmps hl (i := 1) (e := .int j) rfl (fun z => nomatch z)
        cases vs with
        | nil => simp at hl
        | cons v vr =>
          cases vr with
          | nil => simp at hl
          | cons v2 vr =>
            cases vr with
            | cons => simp at hl
            | nil =>
              cases ew; cases ew2
              cases ow; cases ow2
              refine ⟨i0, j, rfl, ⟨hr.1.1, hr.1.2, hr.2.1, hr.2.2⟩, ?_⟩
              refine for_range (lo := i0) (n := (j - i0).toNat) (fun i σ H => ∃ L env, At G.θ G.io fx L H σ tv env td ∧ loopL t s ((rngD i0 j).drop i) env = some (o, envE)) ⟨L1, env1, c2, e1⟩ ?_ ?_
              · rintro i σ2 H2 hi ⟨L2, env2, c3, e3⟩
                rw [drop_get (rngD_get (lo := i0) (hi := j) hi)] at e3
                exact loop_turn (G := G) (D := D) k (c3.push .int) e3 fun σ' H' q => q
              · rintro σ2 H2 ⟨L2, env2, c3, e3⟩
                rw [List.drop_eq_nil_of_le (by rw [rngD_len]; exact Nat.le_refl _)] at e3
                cases e3
                exact k σ2 H2 L2 c3
      · cases e1
    · rename_i x env1 hm1
      cases e1
      exact ⟨fx, L, tv, env, td, .error x, _, c, hm1, fun cls dd H' L' ex c' => k cls dd σ H' L' ex c'⟩
    · cases e1
end
end Y

namespace Y
open PySem L2 PySem.Spec PyProof.Rows

/-! ### what a def promises -/
abbrev Fn := List D → Option (R × List D)
def argOf (io : List Nat) (i : Nat) : Option (List Nat) := if io.contains i then some [i] else none
structure Post (θ : Th) (io : List Nat) (vs : List V) (L : LM) (H : Hp) (ds' : List D) (L' : LM) (H' : Hp) : Prop where
  lab : LabOk L' H'
  base : ∀ a o, H a = some o → (L a = .no → L' a = .no ∧ H' a = some o) ∧ (L a = .fz → L' a = .fz ∧ H' a = some o)
  io : ∀ i ∈ io, ∀ d, ds'[i]? = some d → d = .unk ∨ ∃ v, vs[i]? = some v ∧ Own θ L' H' (some [i]) v d
def spG (θ : Th) (io : List Nat) (N : Nat) (F : Fn) : Sp := fun vs H Q E => ∃ L ds r ds', vs.length = N ∧ ds.length = N ∧ LabOk L H ∧
  (∀ i d, ds[i]? = some d → ∃ v, vs[i]? = some v ∧ Own θ L H (argOf io i) v d) ∧ F ds = some (r, ds') ∧
  match r with
  | .ok d => ∀ v H' L' m, m ∉ io → Post θ io vs L H ds' L' H' → Own θ L' H' (some [m]) v d → Q v H'
  | .error x => ∀ cls dd H' L', Post θ io vs L H ds' L' H' → ExR θ L' H' cls dd x → E cls dd H'
/-- a body's function: n names -/
def semG (n : Nat) (b : SM) : Fn := fun ds => match b (ds ++ List.replicate (n - ds.length) .unk) with
  | some (.ret d, env) => some (.ok d, env)
  | some (.next, env) => some (.ok .non, env)
  | some (.exc x, env) => some (.error x, env)
  | _ => none

section
variable {θ : Th} {io : List Nat} {vs : List V} {L L' : LM} {H H' : Hp} {ds : List D}
def fx0 (io : List Nat) (vs : List V) (L : LM) (H : Hp) : Fx := ⟨L, H, io.map fun i => (i, vs.getD i .non)⟩
theorem at0 {n : Nat} {N : List Str} (hv : vs.length = n) (hd : ds.length = n) (hN : n ≤ N.length) (hio : ∀ i ∈ io, i < n) (ok : LabOk L H) (own : ∀ i d, ds[i]? = some d → ∃ v, vs[i]? = some v ∧ Own θ L H (argOf io i) v d) :
    At θ io (fx0 io vs L H) L H (L2.start N vs) [] (ds ++ List.replicate (N.length - ds.length) .unk) [] := by
  have hl : (L2.start N vs).length = (ds ++ List.replicate (N.length - ds.length) D.unk).length := by
    unfold L2.start
    simp [hv, hd]
  refine ⟨⟨by simpa using hl, fun i d e => ?_, ok, fun a o e => ⟨fun z => ⟨z, e⟩, fun z => ⟨z, e⟩⟩, fun p hp => ?_⟩, hl, ?_, fun i hi => ?_⟩
  · rw [List.append_nil] at e ⊢
    by_cases hi : i < ds.length
    · rw [List.getElem?_append_left hi] at e
      obtain ⟨v, e1, o⟩ := own i d e
      refine .inr ⟨v, ?_, ?_⟩
      · unfold L2.start
        rw [List.getElem?_append_left (by rw [List.length_map, hv, ← hd]; exact hi), List.getElem?_map, e1]
        rfl
      · unfold argOf at o
        split at o
        · exact o
        · exact o.any _
    · rw [List.getElem?_append_right (by omega), List.getElem?_replicate] at e
      split at e
      · exact .inl (Option.some.inj e).symm
      · cases e
  · obtain ⟨i, hi, rfl⟩ := List.mem_map.mp hp
    have h := hio i hi
    rw [List.append_nil]
    unfold L2.start
    show (vs.map some ++ _)[i]? = some (some (vs.getD i .non))
    rw [List.getElem?_append_left (by rw [List.length_map, hv]; exact h), List.getElem?_map, List.getD_eq_getElem?_getD, List.getElem?_eq_getElem (by rw [hv]; exact h)]
    rfl
  · show (io.map fun i => (i, vs.getD i V.non)).map (·.1) = io
    rw [List.map_map]
    exact List.map_id _
  · have := hio i hi
    unfold L2.start
    rw [List.length_append, List.length_map, hv]
    omega
theorem At.post {n : Nat} {σ : L2.St} {tv : List (Option V)} {env td : List D} (hv : vs.length = n) (hio : ∀ i ∈ io, i < n) (c : At θ io (fx0 io vs L H) L' H' σ tv env td) : Post θ io vs L H env L' H' := by
  refine ⟨c.cr.lab, c.cr.base, fun i hi d e => ?_⟩
  by_cases hd : d = .unk
  · exact .inl hd
  · obtain ⟨v, e1, o⟩ := c.var e hd
    have hp := c.cr.pin (i, vs.getD i .non) (List.mem_map.mpr ⟨i, hi, rfl⟩)
    rw [List.getElem?_append_left (c.lt i hi)] at hp
    rw [e1] at hp
    have ev : v = vs.getD i .non := by simpa using hp
    refine .inr ⟨v, ?_, o⟩
    have hlt : i < vs.length := by rw [hv]; exact hio i hi
    rw [ev, List.getD_eq_getElem?_getD, List.getElem?_eq_getElem hlt]
    rfl
end

section
variable {P : Program} {w : World} {K : PySem.W.Frag} {mg : Str → Option Value} {base : Heap}
/-- THE RULE for a def -/
theorem fn_ok {θ : Th} {x qual : Str} {st : Stmt} {f : Addr} {fd : FuncData} {N ps : List Str} {k : Nat} {io : List Nat} {b : SM} (F : Fun K x qual st f fd) (S : FnScope N ps (defScope st)) (hio : ∀ i ∈ io, i < ps.length)
    (hbody : ∀ (cdv : Value) (A : Around) (outer : List Env) (s : Shared) (H : Hp) (E : XK) (W : WX), Room k (A.deeper (envOfC qual (defScope st) s.heap.objs.size f cdv)) →
      Takes (cxOf (L2.CX P w) P w K mg base N qual (defScope st) f cdv A outer s H E) W →
      PassesOwn (model P w) (cxOf (L2.CX P w) P w K mg base N qual (defScope st) f cdv A outer s H E).A (cxOf (L2.CX P w) P w K mg base N qual (defScope st) f cdv A outer s H E).env (cxOf (L2.CX P w) P w K mg base N qual (defScope st) f cdv A outer s H E).xe →
      PSs (cxOf (L2.CX P w) P w K mg base N qual (defScope st) f cdv A outer s H E) (defBody st) (rdS ⟨θ, io, W⟩ b)) :
    FnOk P w K mg base (L2.CX P w) (k + 1) f fd ps (spG θ io ps.length (semG N.length b)) := by
  have hpl : ps.length ≤ N.length := by have := congrArg List.length S.pre; rw [List.length_take] at this; omega
  refine F.okX S (fun vs H Q E h => ?_) (fun cdv A outer s H vs Q E hr h => ?_)
  · obtain ⟨_, _, _, _, h, _⟩ := h
    exact h
  · obtain ⟨L, ds, r, ds', hv, hd, ok, own, hF, kk⟩ := h
    refine ⟨_, hbody cdv A outer s H E (fun cls dd _ H' => E cls dd H') hr (takes_of rfl rfl rfl rfl) (passes_of rfl), ?_⟩
    have c0 := at0 (θ := θ) (N := N) hv hd hpl hio ok own
    unfold semG at hF
    refine ⟨fx0 io vs L H, L, [], ds ++ List.replicate (N.length - ds.length) .unk, [], ?_⟩
    cases hb : b (ds ++ List.replicate (N.length - ds.length) .unk) with
    | none => rw [hb] at hF; cases hF
    | some q =>
      obtain ⟨o, env'⟩ := q
      rw [hb] at hF
      refine ⟨o, env', c0, rfl, ?_⟩
      cases o with
      | brk => cases hF
      | cont => cases hF
      | next =>
        cases hF
        exact fun σ' H' L' c => kk .non H' L' σ'.length (fun z => Nat.lt_irrefl _ (c.lt _ z)) (c.post hv hio) .non
      | ret d =>
        cases hF
        intro v σ' H' L' c
        have hm : (σ' ++ ([] : List (Option V))).length ∉ io := fun z => by
          have := c.lt _ z
          rw [List.append_nil] at this
          exact Nat.lt_irrefl _ this
        by_cases hu : d = .unk
        · subst hu
          exact kk v H' L' _ hm (c.post hv hio) .unk
        · obtain ⟨v', ev, o⟩ := c.top hu
          cases ev
          exact kk v H' L' _ hm (c.post hv hio) o
      | exc x =>
        cases hF
        exact fun cls dd σ' H' L' ex c => kk cls dd H' L' (c.post hv hio) ex
end
end Y

namespace Y
open PySem L2 PySem.Spec PyProof.Rows

/-! ### behind a call -/
def forget : Lab → Lab
  | .at _ => .no
  | l => l
def resR (m n : Nat) : Lab → Lab
  | .at (k :: τ) => if k = m then .at (n :: τ) else .no
  | .at [] => .no
  | l => l
theorem resR_at {m n : Nat} {τ : List Nat} : resR m n (.at (m :: τ)) = .at (n :: τ) := if_pos rfl
section
variable {θ : Th} {io : List Nat} {vs : List V} {L L' : LM} {H H' : Hp} {ds : List D}
/-- the labels behind a call: what was is as it was, what is new is the result's (root m there, root n here) -/
def backL (L : LM) (H : Hp) (L' : LM) (m n : Nat) : LM := fun a => match H a with
  | some _ => L a
  | none => resR m n (L' a)
theorem backL_some {m n : Nat} {a : Addr} {o : HO} (e : H a = some o) : backL L H L' m n a = L a := by unfold backL; rw [e]
theorem backL_none {m n : Nat} {a : Addr} (e : H a = none) : backL L H L' m n a = resR m n (L' a) := by unfold backL; rw [e]
structure Beh (L : LM) (H : Hp) (L' : LM) (H' : Hp) : Prop where
  lab : LabOk L' H'
  base : ∀ a o, H a = some o → (forget (L a) = .no → L' a = .no ∧ H' a = some o) ∧ (forget (L a) = .fz → L' a = .fz ∧ H' a = some o)
theorem forget_cases (l : Lab) : forget l = .no ∨ (forget l = .fz ∧ l = .fz) := by
  cases l with
  | no => exact .inl rfl
  | fz => exact .inr ⟨rfl, rfl⟩
  | «at» p => exact .inl rfl
theorem Beh.ext (b : Beh L H L' H') (m n : Nat) : ExtN n L H (backL L H L' m n) H' := by
  refine ⟨fun a o e => ⟨?_, backL_some e⟩, fun a e => ?_⟩
  · obtain ⟨h1, h2⟩ := b.base a o e
    rcases forget_cases (L a) with z | ⟨z, _⟩
    · exact (h1 z).2
    · exact (h2 z).2
  · rw [backL_none e]
    cases q : L' a with
    | no => exact .inl rfl
    | fz => exact .inr ⟨b.lab a (by rw [q]; exact fun z => nomatch z), .inl rfl⟩
    | «at» p =>
      cases p with
      | nil => exact .inl rfl
      | cons k τ =>
        by_cases h : k = m
        · subst h
          refine .inr ⟨b.lab a (by rw [q]; exact fun z => nomatch z), .inr ⟨τ, resR_at⟩⟩
        · exact .inl (if_neg h)
theorem Beh.old (b : Beh L H L' H') {a : Addr} {o : HO} (e : H a = some o) : (L' a = .no ∨ L' a = .fz) ∧ (L' a = .fz → L a = .fz) := by
  obtain ⟨h1, h2⟩ := b.base a o e
  rcases forget_cases (L a) with z | ⟨z, w⟩
  · exact ⟨.inl (h1 z).1, fun q => by rw [(h1 z).1] at q; cases q⟩
  · exact ⟨.inr (h2 z).1, fun _ => w⟩
theorem Beh.fz (b : Beh L H L' H') (m n : Nat) : FZ L' H' (backL L H L' m n) H' := fun a e => ⟨by
  cases q : H a with
  | some o => rw [backL_some q]; exact (b.old q).2 e
  | none => rw [backL_none q, e]; rfl, fun _ r => r⟩
theorem Beh.pt (b : Beh L H L' H') (m n : Nat) : PT L' H' (backL L H L' m n) H' (some [m]) (some [n]) := fun a τ e => ⟨by
  cases q : H a with
  | some o => rcases (b.old q).1 with z | z <;> (rw [z] at e; cases e)
  | none => rw [backL_none q, e]; exact resR_at, fun _ r => r⟩
theorem Beh.res {m n : Nat} {v : V} {d : D} (b : Beh L H L' H') (o : Own θ L' H' (some [m]) v d) : Own θ (backL L H L' m n) H' (some [n]) v d := o.tr (b.fz m n) _ (b.pt m n)
theorem Beh.ex {m n : Nat} {cls : Value} {dd : Option Addr} {x : Exn} (b : Beh L H L' H') (e : ExR θ L' H' cls dd x) : ExR θ (backL L H L' m n) H' cls dd x := by
  obtain ⟨h1, a, fs, h2, h3, h4, h5⟩ := e
  exact ⟨h1, a, fs, h2, h3, h4, h5.tr (b.fz m n) none trivial⟩
theorem forget_fz : FZ L H (fun a => forget (L a)) H := map_fz rfl
theorem forget_ok (ok : LabOk L H) : LabOk (fun a => forget (L a)) H := fun a z => ok a fun q => z (by show forget (L a) = .no; rw [q]; rfl)
end
theorem frs_len : ∀ ds : List D, (D.frs ds).length = ds.length
  | [] => rfl
  | _ :: r => by rw [D.frs, List.length_cons, List.length_cons, frs_len r]

/-! ### calls of defs that change nothing of their arguments -/
def mCall (N : Nat) (F : Fn) (a : MA) : M := fun env => match a env with
  | some (.ok ds, env1) => if noUnk ds && decide (ds.length = N) then (match F (D.frs ds) with | some (r, _) => some (r, env1) | none => none) else none
  | some (.error x, env1) => some (.error x, env1)
  | none => none
section
variable {X : Cx} {G : Gc} {k : Nat} {f : Addr} {fd : FuncData} {ps : List Str} {x : Str} {p pos : Pos} {e : Expr} {es : List Expr} {ma : MA} {N : Nat} {F : Fn}
theorem call_core {fx : Fx} {L1 : LM} {H1 : Hp} {σ : L2.St} {tv : List (Option V)} {env1 td : List D} {vs : List V} {ds ds' : List D} {r : R} {Q : VK} (c1 : At G.θ G.io fx L1 H1 σ (tv ++ vs.map some) env1 (td ++ ds)) (hl : vs.length = ds.length) (hu : noUnk ds = true) (hN : ds.length = N)
    (hf : F (D.frs ds) = some (r, ds')) (k : match (generalizing := false) r with
      | .ok d => ∀ v H' L', At G.θ G.io fx L' H' σ (tv ++ [some v]) env1 (td ++ [d]) → Q v H'
      | .error x => ∀ cls dd H' L', ExR G.θ L' H' cls dd x → At G.θ G.io fx L' H' σ tv env1 td → G.W cls dd σ H') : spG G.θ [] N F vs H1 Q (WE G.W σ) := by
  obtain ⟨c2, o2⟩ := c1.args hl hu
  have ok2 := c2.cr.lab
  generalize hL : (fun a => Y.frzGe (σ ++ tv).length (L1 a)) = Lf at c2 o2 ok2
  refine ⟨fun a => forget (Lf a), D.frs ds, r, ds', by rw [hl, hN], by rw [frs_len, hN], forget_ok ok2, fun i d q => ?_, hf, ?_⟩
  · obtain ⟨v, e3, o3⟩ := o2.get q
    exact ⟨v, e3, o3.tr forget_fz _ trivial⟩
  · cases r with
    | ok d =>
      intro v H2 L2 m _ post o
      have b : Beh Lf H1 L2 H2 := ⟨post.lab, post.base⟩
      exact k v H2 _ ((c2.extN (b.ext m (σ ++ tv).length)).push (b.res o))
    | error x =>
      intro cls dd H2 L2 post ex
      have b : Beh Lf H1 L2 H2 := ⟨post.lab, post.base⟩
      exact k cls dd H2 _ (b.ex (m := 0) (n := (σ ++ tv).length) ex) (c2.extN (b.ext 0 (σ ++ tv).length))
theorem rd_call {σ : L2.St} {H : Hp} {Q : VK} (h : rdM G (mCall N F ma) σ H Q) : rdA G ma σ H fun vs H1 => spG G.θ [] N F vs H1 Q (WE G.W σ) := by
  obtain ⟨fx, L, tv, env, td, r, env', c, e1, k⟩ := h
  unfold mCall at e1
  split at e1
  · rename_i ds env1 hm
    split at e1
    · rename_i hu
      rw [Bool.and_eq_true, decide_eq_true_eq] at hu
      cases hf : F (D.frs ds) with
      | none => rw [hf] at e1; cases e1
      | some q =>
        obtain ⟨r', ds'⟩ := q
        rw [hf] at e1
        cases e1
        exact ⟨fx, L, tv, env, td, .ok ds, _, c, hm, fun vs H1 L1 hl c1 => call_core c1 hl hu.1 hu.2 hf k⟩
    · cases e1
  · rename_i x env1 hm
    cases e1
    exact ⟨fx, L, tv, env, td, .error x, _, c, hm, k⟩
  · cases e1
theorem xm_call (Fk : FnOk X.prog X.w X.K X.mg X.base (L2.CX X.prog X.w) k f fd ps (spG G.θ [] N F)) (hr : Room k X.A) (hm : X.mg x = some (.ref f)) (hk : PySem.W.keepIn X.K (.ref f) = true) (hb : Binds X.K fd ps []) (tk : Takes X G.W) (hg : Gl X x)
    (ha : PA X (e :: es) (rdA G ma)) (hdb : (x == ("__debug__" : Str)) = false := by decide) (he : starEach (e :: es) X.env = (false, eval e X.env) :: starEach es X.env := by rfl) (hpl : (backTo pos (starEach es X.env)).any (·.1) = false := by rfl) :
    PE X (.Call (.Name x p) (e :: es) [] pos) (rdM G (mCall N F ma)) :=
  pe_weak (pe_callSD (E := WE G.W) Fk hr hg hm hk hb .nil (fun σ => passAt tk σ) ha hdb he hpl) fun σ H Q h => by
    show rdA G ma σ H fun vs H1 => spG G.θ [] N F (vs ++ []) H1 Q (WE G.W σ)
    have h2 := rd_call h
    simpa using h2
end

/-! ### a new instance -/
def mMake (c : Nat) (N : Nat) (F : Fn) (a : MA) : M := fun env => match a env with
  | some (.ok ds, env1) => if noUnk ds && decide (ds.length + 1 = N) then (match F (.obj true c [] [] :: D.frs ds) with
    | some (.ok .non, d :: _) => (match d with | .unk => none | d => some (.ok d, env1))
    | some (.error x, _) => some (.error x, env1)
    | _ => none) else none
  | some (.error x, env1) => some (.error x, env1)
  | none => none
section
variable {X : Cx} {G : Gc} {k : Nat} {f C : Addr} {fd : FuncData} {ps : List Str} {x : Str} {p pos : Pos} {e : Expr} {es : List Expr} {ma : MA} {N c : Nat} {F : Fn} {t : TA} {sp : Sp}
def tMakeS (C : Addr) (sp : Sp) (E : L2.St → XK) (t : TA) : TE := fun σ H Q => t σ H fun vs H1 => ∀ x dx, H1 x = none → H1 dx = none → dx ≠ x →
  sp (.ref x :: vs) (upd (upd H1 dx (.own x)) x (.ins C dx [])) (fun v H2 => v = .non ∧ Q (.ref x) H2) (E σ)
theorem run_makeS {pins : List (Addr × Obj)} {σ : L2.St} {H : Hp} {s : Shared} {Q : VK} {us : List Value} {vs : List V} {CX : CXT} {E : XK} (Mk : L2.Mk X.K C f) (F : FnOk X.prog X.w X.K X.mg X.base CX k f fd ps sp) (hr : Room (k + 1) X.A) (hb : Binds X.K fd ps [])
    (hx : PassesAt CX X σ E) (I : Inv X pins σ H s) (r : Vals vs us)
    (h : ∀ x dx, H x = none → H dx = none → dx ≠ x → sp (.ref x :: vs) (upd (upd H dx (.own x)) x (.ins C dx [])) (fun v H2 => v = .non ∧ Q (.ref x) H2) E) :
    wpAny (model X.prog X.w) X.A (call (.ref C) us) (EP X pins σ Q) X.xe s := by
  have hq := h (s.heap.objs.size + 1) s.heap.objs.size (I.hok.fresh (Nat.le_succ _)) (I.hok.fresh (Nat.le_refl _)) (Nat.ne_of_lt (Nat.lt_succ_self _))
  have I2 := Inv.made (C := C) I
  have r2 : Vals (V.ref (s.heap.objs.size + 1) :: vs) (Value.ref (s.heap.objs.size + 1) :: us) := .cons rfl r
  have hl : (Value.ref (s.heap.objs.size + 1) :: us).length = ps.length := by
    have e := r2.length
    rw [F.len _ _ _ _ hq] at e
    exact e.symm
  have hbb := hb _ (Value.ref (s.heap.objs.size + 1) :: us) I2.kIn (by simpa using hl)
  rw [List.append_nil] at hbb
  refine wpAny_call (make_map (f := f) I.kIn Mk.makes Mk.init (beq_iff_eq.mp Mk.fn) (codeAny_mono (F.run _ X.stack _ _ ⟨Value.ref (s.heap.objs.size + 1) :: us, []⟩ (Value.ref (s.heap.objs.size + 1) :: us) _ _ E (hr.make C us [])
    (I2.env0.make C us []) hbb r2 hq) fun r s' hq' => ?_))
  cases r with
  | error e => exact hx pins _ _ e s' I2 hq'
  | ok fl =>
    cases fl with
    | ret u =>
      obtain ⟨v, H', I3, rv, ev, q3⟩ := I2.after hq'
      subst ev
      exact ⟨rv, ⟨V.ref (s.heap.objs.size + 1), H', I3, rfl, q3⟩⟩
    | next => exact False.elim hq'
    | brk => exact False.elim hq'
    | cont => exact False.elim hq'
theorem pe_makeS {CX : CXT} {E : L2.St → XK} (Mk : L2.Mk X.K C f) (F : FnOk X.prog X.w X.K X.mg X.base CX k f fd ps sp) (hr : Room (k + 1) X.A) (hg : Gl X x) (hm : X.mg x = some (.ref C)) (hb : Binds X.K fd ps []) (hx : ∀ σ, PassesAt CX X σ (E σ))
    (ha : PA X (e :: es) t) (hdb : (x == ("__debug__" : Str)) = false := by decide) (he : starEach (e :: es) X.env = (false, eval e X.env) :: starEach es X.env := by rfl) (hpl : (backTo pos (starEach es X.env)).any (·.1) = false := by rfl) :
    PE X (.Call (.Name x p) (e :: es) [] pos) (tMakeS C sp E t) := by
  refine ⟨fun pins s σ H Q I h => ?_⟩
  refine wpAny_Call_Name_kw (ld_glob I hg hm ?_ hdb)
  refine PySem.W.callWith_K (h₀ := X.base) I.ok.mod.kin Mk.kp (thn (ha.run pos pins s σ H _ I h) fun us s1 ⟨vs, H1, I1, r, q⟩ => ⟨I1.kIn, ?_⟩) he hpl
  exact run_makeS Mk F hr hb (hx σ) I1 r q
theorem rd_make (cf : CF G.θ c) {σ : L2.St} {H : Hp} {Q : VK} (h : rdM G (mMake c N F ma) σ H Q) : tMakeS (G.θ.cA c) (spG G.θ [0] N F) (WE G.W) (rdA G ma) σ H Q := by
  obtain ⟨fx, L, tv, env, td, r, env', c0, e1, k⟩ := h
  show rdA G ma σ H fun vs H1 => ∀ x dx, H1 x = none → H1 dx = none → dx ≠ x → spG G.θ [0] N F (.ref x :: vs) (upd (upd H1 dx (.own x)) x (.ins (G.θ.cA c) dx [])) (fun v H2 => v = .non ∧ Q (.ref x) H2) (WE G.W σ)
  unfold mMake at e1
  split at e1
  · rename_i ds env1 hm
    split at e1
    · rename_i hu
      rw [Bool.and_eq_true, decide_eq_true_eq] at hu
      cases hf : F (.obj true c [] [] :: D.frs ds) with
      | none => rw [hf] at e1; cases e1
      | some q =>
        obtain ⟨r', ds'⟩ := q
        rw [hf] at e1
        have hA : ∃ env2, env1 = env2 := ⟨_, rfl⟩
        -- what is known of the arguments
        have core : ∀ vs H1 L1, vs.length = ds.length → At G.θ G.io fx L1 H1 σ (tv ++ vs.map some) env1 (td ++ ds) → ∀ x dx, H1 x = none → H1 dx = none → dx ≠ x →
            ∃ Lf : LM, At G.θ G.io fx Lf H1 σ tv env1 td ∧ ∃ Lc : LM, (∀ a o, H1 a = some o → Lc a = forget (Lf a)) ∧ LabOk Lc (upd (upd H1 dx (.own x)) x (.ins (G.θ.cA c) dx [])) ∧
              ∀ i d, (D.obj true c [] [] :: D.frs ds)[i]? = some d → ∃ v, (V.ref x :: vs)[i]? = some v ∧ Own G.θ Lc (upd (upd H1 dx (.own x)) x (.ins (G.θ.cA c) dx [])) (argOf [0] i) v d := by
          intro vs H1 L1 hl c1 x dx nx ndx ne
          obtain ⟨c2, o2⟩ := c1.args hl hu.1
          refine ⟨_, c2, setL (fun a => forget (Y.frzGe (σ ++ tv).length (L1 a))) x (.at [0]), fun a o e => setL_ne (ne_of_none e nx), ?_, fun i d q => ?_⟩
          · intro a z
            by_cases ha : a = x
            · subst ha; rw [upd_same]; exact fun q => nomatch q
            · rw [setL_ne ha] at z
              rw [upd_ne ha]
              by_cases hb : a = dx
              · subst hb; rw [upd_same]; exact fun q => nomatch q
              · rw [upd_ne hb]
                exact forget_ok c2.cr.lab a z
          · cases i with
            | zero =>
              cases q
              refine ⟨_, rfl, ?_⟩
              exact .objO ⟨cf, fun _ z => absurd z (by simp)⟩ setL_same upd_same rfl .nil
            | succ i =>
              obtain ⟨v, e3, o3⟩ := o2.get (i := i) (by simpa using q)
              refine ⟨v, by simpa using e3, o3.tr (fun a e => ?_) _ trivial⟩
              have hne : H1 a ≠ none := c2.cr.lab a (by rw [e]; exact fun z => nomatch z)
              have hax : a ≠ x := fun z => hne (by rw [z]; exact nx)
              have had : a ≠ dx := fun z => hne (by rw [z]; exact ndx)
              have e' : Y.frzGe (σ ++ tv).length (L1 a) = .fz := e
              refine ⟨by rw [setL_ne hax]; show forget (Y.frzGe _ (L1 a)) = .fz; rw [e']; rfl, fun o q2 => by rw [upd_ne hax, upd_ne had]; exact q2⟩
        have beh : ∀ {vs : List V} {H1 : Hp} {Lf Lc : LM} {x dx : Addr} {H2 : Hp} {L2 : LM} {ds' : List D}, H1 x = none → H1 dx = none → dx ≠ x → (∀ a o, H1 a = some o → Lc a = forget (Lf a)) → Post G.θ [0] (.ref x :: vs) Lc (upd (upd H1 dx (.own x)) x (.ins (G.θ.cA c) dx [])) ds' L2 H2 → Beh Lf H1 L2 H2 := by
          intro vs H1 Lf Lc x dx H2 L2 ds' nx ndx ne hLc post
          refine ⟨post.lab, fun a o e => ?_⟩
          have e2 : upd (upd H1 dx (.own x)) x (.ins (G.θ.cA c) dx []) a = some o := by rw [upd_ne (ne_of_none e nx), upd_ne (ne_of_none e ndx)]; exact e
          have := post.base a o e2
          rw [hLc a o e] at this
          exact this
        cases r' with
        | error x0 =>
          cases e1
          refine ⟨fx, L, tv, env, td, .ok ds, _, c0, hm, fun vs H1 L1 hl c1 x dx nx ndx ne => ?_⟩
          obtain ⟨Lf, c2, Lc, hLc, okc, own⟩ := core vs H1 L1 hl c1 x dx nx ndx ne
          refine ⟨Lc, _, .error x0, ds', by simp [hl, hu.2], by simp [frs_len, hu.2], okc, own, hf, ?_⟩
          intro cls dd H2 L2 post ex
          have b := beh nx ndx ne hLc post
          exact k cls dd H2 _ (b.ex (m := 0) (n := (σ ++ tv).length) ex) (c2.extN (b.ext 0 (σ ++ tv).length))
        | ok d0 =>
          cases d0 with
          | non =>
            cases ds' with
            | nil => cases e1
            | cons d1 dr =>
              have hd1 : d1 ≠ .unk ∧ some (Except.ok d1, env1) = some (r, env') := by
                cases d1 <;> first | (cases e1; exact ⟨(fun z => nomatch z), rfl⟩) | cases e1
              obtain ⟨hu1, e2⟩ := hd1
              cases e2
              refine ⟨fx, L, tv, env, td, .ok ds, _, c0, hm, fun vs H1 L1 hl c1 x dx nx ndx ne => ?_⟩
              obtain ⟨Lf, c2, Lc, hLc, okc, own⟩ := core vs H1 L1 hl c1 x dx nx ndx ne
              refine ⟨Lc, _, .ok .non, d1 :: dr, by simp [hl, hu.2], by simp [frs_len, hu.2], okc, own, hf, ?_⟩
              intro v H2 L2 m _ post o
              cases o
              have b := beh nx ndx ne hLc post
              rcases post.io 0 (by simp) d1 rfl with z | ⟨w, ew, ow⟩
              · exact absurd z hu1
              · cases ew
                exact ⟨rfl, k _ H2 _ ((c2.extN (b.ext 0 (σ ++ tv).length)).push (b.res ow))⟩
          | _ => cases e1
    · cases e1
  · rename_i x env1 hm
    cases e1
    exact ⟨fx, L, tv, env, td, .error x, _, c0, hm, k⟩
  · cases e1
theorem xm_make (cf : CF G.θ c) (Mk : L2.Mk X.K (G.θ.cA c) f) (Fk : FnOk X.prog X.w X.K X.mg X.base (L2.CX X.prog X.w) k f fd ps (spG G.θ [0] N F)) (hr : Room (k + 1) X.A) (hm : X.mg x = some (.ref (G.θ.cA c))) (hb : Binds X.K fd ps []) (tk : Takes X G.W) (hg : Gl X x)
    (ha : PA X (e :: es) (rdA G ma)) (hdb : (x == ("__debug__" : Str)) = false := by decide) (he : starEach (e :: es) X.env = (false, eval e X.env) :: starEach es X.env := by rfl) (hpl : (backTo pos (starEach es X.env)).any (·.1) = false := by rfl) :
    PE X (.Call (.Name x p) (e :: es) [] pos) (rdM G (mMake c N F ma)) :=
  pe_weak (pe_makeS (E := WE G.W) Mk Fk hr hg hm hb (fun σ => passAt tk σ) ha hdb he hpl) fun _ _ _ h => rd_make cf h
end
end Y

namespace Y
open PySem L2 PySem.Spec PyProof.Rows

/-! ### calls with keywords, all parameters given -/
def mCallK (n m : Nat) (F : Fn) (a b : MA) : M := fun env => match a env with
  | some (.ok ds, env1) => (match b env1 with
    | some (.ok es, env2) => if noUnk (ds ++ es) && (decide (ds.length = n) && decide (es.length = m)) then (match F (D.frs (ds ++ es)) with | some (r, _) => some (r, env2) | none => none) else none
    | some (.error x, env2) => some (.error x, env2)
    | none => none)
  | some (.error x, env1) => some (.error x, env1)
  | none => none
theorem Fun.kbn {K : PySem.W.Frag} {x qual : Str} {st : Stmt} {f : Addr} {fd : FuncData} {ps ks : List Str} {n : Nat} (F : Fun K x qual st f fd)
    (h : ∀ (kV doc pm : Value) (an : Option Addr) (cdv ct : Value) (us ws : List Value), us.length = n → ws.length = ks.length → bindArgs (PySem.W.fnOf x qual (defArgs st) (defBody st) (defScope st) .none kV doc pm an cdv ct) ⟨us, ks.zip ws⟩ = pure (ps.zip (us ++ ws))) :
    KBn K fd ps n ks (fun us ws => us ++ ws) (fun vs zs => vs ++ zs) := by
  obtain ⟨oc, od, kV, doc, pm, an, cdv, ct, osl, rfl, lk, hcd⟩ := F.ex
  exact ⟨fun s us ws _ l1 l2 => .of_eq (h kV doc pm an cdv ct us ws l1 l2), fun r1 r2 => r1.append r2⟩
section
variable {X : Cx} {G : Gc} {k n : Nat} {f : Addr} {fd : FuncData} {ps ks : List Str} {x : Str} {p pos kpos : Pos} {e : Expr} {es : List Expr} {kws : List Keyword} {ma mb : MA} {m : M} {N : Nat} {F : Fn} {t tk : TA} {sp : Sp} {nm : Option Str}
theorem pk_weak {t t' : TA} (h : PK X kws t) (w : ∀ σ H Q, t' σ H Q → t σ H Q) : PK X kws t' := ⟨fun pos pins s σ H Q I q => h.run pos pins s σ H Q I (w σ H Q q)⟩
theorem xk_nil : PK X [] (rdA G aNil) := pk_weak pk_nil fun σ H Q ⟨fx, L, tv, env, td, r, env', c, e1, k⟩ => by
  cases e1
  exact k [] H L rfl (by simpa using c)
theorem xk_cons (ha : PE X e (rdM G m)) (hr : PK X kws (rdA G ma)) : PK X (⟨nm, e, kpos⟩ :: kws) (rdA G (aCons m ma)) := pk_weak (pk_cons ha hr) fun _ _ _ h => rd_cons h
theorem run_fnNS {CX : CXT} {E : XK} {pins : List (Addr × Obj)} {σ : L2.St} {H : Hp} {s : Shared} {Q : VK} {us ws : List Value} {vs zs : List V} {g : List Value → List Value → List Value} {gV : List V → List V → List V} (F : FnOk X.prog X.w X.K X.mg X.base CX k f fd ps sp) (hr : Room k X.A) (hb : KBn X.K fd ps n ks g gV) (hx : PassesAt CX X σ E)
    (I : Inv X pins σ H s) (r : Vals vs us) (rz : Vals zs ws) (l1 : vs.length = n) (l2 : zs.length = ks.length) (h : sp (gV vs zs) H Q E) : wpAny (model X.prog X.w) X.A (call (.ref f) us (ks.zip ws)) (EP X pins σ Q) X.xe s := by
  have r2 := hb.rel r rz
  refine wpAny_call (codeAny_mono (F.run X.A X.stack s H ⟨us, ks.zip ws⟩ (g us ws) (gV vs zs) Q E hr I.env0 (hb.to s us ws I.kIn (r.length.symm.trans l1) (rz.length.symm.trans l2)) r2 h) fun r s' hq => ?_)
  cases r with
  | error e => exact hx pins H s e s' I hq
  | ok fl =>
    cases fl with
    | ret u => exact I.after hq
    | next => exact False.elim hq
    | brk => exact False.elim hq
    | cont => exact False.elim hq
def tCallNS (n m : Nat) (sp : Sp) (gV : List V → List V → List V) (E : L2.St → XK) (t tk : TA) : TE := fun σ H Q => t σ H fun vs H1 => tk σ H1 fun zs H2 => vs.length = n ∧ zs.length = m ∧ sp (gV vs zs) H2 Q (E σ)
theorem pe_callNS {CX : CXT} {E : L2.St → XK} {g : List Value → List Value → List Value} {gV : List V → List V → List V} (F : FnOk X.prog X.w X.K X.mg X.base CX k f fd ps sp) (hr : Room k X.A) (hg : Gl X x) (hm : X.mg x = some (.ref f)) (hk : PySem.W.keepIn X.K (.ref f) = true) (hb : KBn X.K fd ps n ks g gV) (hx : ∀ σ, PassesAt CX X σ (E σ))
    (ha : PA X (e :: es) t) (hkw : PK X kws tk) (hall : (backToKw pos (keywordEach kws X.env)).all (·.1.isSome) = true) (hks : (backToKw pos (keywordEach kws X.env)).filterMap (·.1) = ks)
    (hdb : (x == ("__debug__" : Str)) = false) (he : starEach (e :: es) X.env = (false, eval e X.env) :: starEach es X.env)
    (hpl : ((backTo pos (starEach (e :: es) X.env)).any (·.1) || (backToKw pos (keywordEach kws X.env)).any (·.1.isNone)) = false) :
    PE X (.Call (.Name x p) (e :: es) kws pos) (tCallNS n ks.length sp gV E t tk) := by
  refine ⟨fun pins s σ H Q I h => ?_⟩
  refine wpAny_Call_Name_kw (ld_glob I hg hm ?_ hdb)
  refine PySem.W.callWith_KW (h₀ := X.base) I.ok.mod.kin hk hall (thn (ha.run pos pins s σ H _ I h) fun us s1 ⟨vs, H1, I1, r, q⟩ => ?_) hpl he
  refine thn (hkw.run pos pins s1 σ H1 _ I1 q) fun ws s2 ⟨zs, H2, I2, rz, l1, l2, q2⟩ => ⟨I2.kIn, ?_⟩
  rw [hks]
  exact run_fnNS F hr hb (hx σ) I2 r rz l1 l2 q2
theorem xm_callK (Fk : FnOk X.prog X.w X.K X.mg X.base (L2.CX X.prog X.w) k f fd ps (spG G.θ [] N F)) (hr : Room k X.A) (hm : X.mg x = some (.ref f)) (hk : PySem.W.keepIn X.K (.ref f) = true) (hb : KBn X.K fd ps n ks (fun us ws => us ++ ws) (fun vs zs => vs ++ zs)) (hN : n + ks.length = N) (tk : Takes X G.W) (hg : Gl X x)
    (ha : PA X (e :: es) (rdA G ma)) (hkw : PK X kws (rdA G mb)) (hall : (backToKw pos (keywordEach kws X.env)).all (·.1.isSome) = true := by rfl) (hks : (backToKw pos (keywordEach kws X.env)).filterMap (·.1) = ks := by rfl)
    (hdb : (x == ("__debug__" : Str)) = false := by decide) (he : starEach (e :: es) X.env = (false, eval e X.env) :: starEach es X.env := by rfl)
    (hpl : ((backTo pos (starEach (e :: es) X.env)).any (·.1) || (backToKw pos (keywordEach kws X.env)).any (·.1.isNone)) = false := by rfl) :
    PE X (.Call (.Name x p) (e :: es) kws pos) (rdM G (mCallK n ks.length F ma mb)) :=
  pe_weak (pe_callNS (E := WE G.W) Fk hr hg hm hk hb (fun σ => passAt tk σ) ha hkw hall hks hdb he hpl) fun σ H Q ⟨fx, L, tv, env, td, r, env', c, e1, k⟩ => by
    show rdA G ma σ H fun vs H1 => rdA G mb σ H1 fun zs H2 => vs.length = n ∧ zs.length = ks.length ∧ spG G.θ [] N F (vs ++ zs) H2 Q (WE G.W σ)
    unfold mCallK at e1
    split at e1
    · rename_i ds env1 hm1
      refine ⟨fx, L, tv, env, td, .ok ds, env1, c, hm1, fun vs H1 L1 hl c1 => ?_⟩
      split at e1
      · rename_i es' env2 hm2
        split at e1
        · rename_i hu
          rw [Bool.and_eq_true, Bool.and_eq_true, decide_eq_true_eq, decide_eq_true_eq] at hu
          cases hf : F (D.frs (ds ++ es')) with
          | none => rw [hf] at e1; cases e1
          | some q =>
            obtain ⟨r', ds'⟩ := q
            rw [hf] at e1
            cases e1
            refine ⟨fx, L1, _, env1, _, .ok es', _, c1, hm2, fun zs H2 L2 hl2 c2 => ⟨by rw [hl, hu.2.1], by rw [hl2, hu.2.2], ?_⟩⟩
            refine call_core (L1 := L2) (tv := tv) (td := td) (vs := vs ++ zs) (ds := ds ++ es') ?_ (by simp [hl, hl2]) hu.1 (by rw [List.length_append, hu.2.1, hu.2.2, hN]) hf k
            rw [List.map_append, ← List.append_assoc, ← List.append_assoc]
            exact c2
        · cases e1
      · rename_i x env2 hm2
        cases e1
        refine ⟨fx, L1, _, env1, _, .error x, _, c1, hm2, fun cls dd H2 L2 ex c2 => k cls dd H2 L2 ex ?_⟩
        exact At.popN (by rw [List.length_map]; exact hl) c2
      · cases e1
    · rename_i x env1 hm1
      cases e1
      exact ⟨fx, L, tv, env, td, .error x, _, c, hm1, k⟩
    · cases e1
end

/-! ### methods of frozen objects, as calls -/
def mMeth (c : Nat) (N : Nat) (F : Fn) (p : P) (a : MA) : M := fun env => match p env with
  | some d => if d.frz then (match d with
    | .obj _ c' _ _ => if c' = c then (match a env with
      | some (.ok ds, env1) => if noUnk ds && decide (ds.length + 1 = N) then (match F (d :: D.frs ds) with | some (r, _) => some (r, env1) | none => none) else none
      | some (.error x, env1) => some (.error x, env1)
      | none => none) else none
    | _ => none) else none
  | none => none
section
variable {X : Cx} {G : Gc} {k c : Nat} {f : Addr} {fd : FuncData} {ps : List Str} {m : Str} {p pos apos : Pos} {e o : Expr} {es : List Expr} {ma : MA} {q : P} {N : Nat} {F : Fn} {t : TA} {ta : TE} {sp : Sp} {C : Addr} {dvs : List V} {ds : List Value}
def tMethS (C : Addr) (m : Str) (sp : Sp) (E : L2.St → XK) (ta : TE) (t : TA) : TE := fun σ H Q => ta σ H fun x H1 => ∃ a dx fs, x = .ref a ∧ H1 a = some (.ins C dx fs) ∧ fs.lookup m = none ∧
  t σ H1 fun vs H2 => sp (x :: vs) H2 Q (E σ)
theorem run_fnS0 {CX : CXT} {E : XK} {pins : List (Addr × Obj)} {σ : L2.St} {H : Hp} {s : Shared} {Q : VK} {us : List Value} {vs : List V} (F : FnOk X.prog X.w X.K X.mg X.base CX k f fd ps sp) (hr : Room k X.A) (hb : Binds X.K fd ps []) (hx : PassesAt CX X σ E)
    (I : Inv X pins σ H s) (r : Vals vs us) (h : sp vs H Q E) : wpAny (model X.prog X.w) X.A (call (.ref f) us) (EP X pins σ Q) X.xe s :=
  run_fnSD (E := fun _ => E) F hr hb .nil hx I r (by simpa using h)
theorem pe_methS3 {CX : CXT} {E : L2.St → XK} {pl : Sem Bool} (he : PE X o ta) (c : Cls X.K C) (hm : Meth X.K C m f) (F : FnOk X.prog X.w X.K X.mg X.base CX k f fd ps sp) (hr : Room k X.A) (hb : Binds X.K fd ps []) (hx : ∀ σ, PassesAt CX X σ (E σ)) (ha : PA X (e :: es) t)
    (hst : starEach (e :: es) X.env = (false, eval e X.env) :: starEach es X.env) (hpl : (backTo pos (starEach es X.env)).any (·.1) = false)
    (ht : eval (.Call (.Attribute o m apos) (e :: es) [] pos) X.env = (do
      let ov ← eval o X.env
      standAt apos.atName
      let (f, first) ← holding [ov] (getMethod ov m pl)
      callWith pos f first (backTo pos (starEach (e :: es) X.env)) (backToKw pos (keywordEach [] X.env)))) :
    PE X (.Call (.Attribute o m apos) (e :: es) [] pos) (tMethS C m sp E ta t) := by
  refine ⟨fun pins s σ H Q I h => ?_⟩
  refine PySem.W.methodCall_KW (pl := pl) (thn (he.run pins s σ H _ I h) fun u s1 ⟨x, H1, I1, rx, a, dx, fs, ex, ea, l, q⟩ => ?_) ht
  subst ex
  obtain rfl : u = Value.ref a := rx
  refine getmeth_ok I1 ea c hm l ?_
  refine PySem.W.callWith_K (first := [.ref a]) (h₀ := X.base) I.ok.mod.kin hm.kp (thn (ha.run pos pins s1 σ H1 _ I1 q) fun us s2 ⟨vs, H2, I2, r, q2⟩ => ⟨I2.kIn, ?_⟩) hst hpl
  exact run_fnS0 (us := .ref a :: us) (vs := .ref a :: vs) F hr hb (hx σ) I2 (.cons rfl r) q2
theorem pe_methS0 {CX : CXT} {E : L2.St → XK} {pl : Sem Bool} (he : PE X o ta) (c : Cls X.K C) (hm : Meth X.K C m f) (F : FnOk X.prog X.w X.K X.mg X.base CX k f fd ps sp) (hr : Room k X.A) (hb : Binds X.K fd ps []) (hx : ∀ σ, PassesAt CX X σ (E σ))
    (ht : eval (.Call (.Attribute o m apos) [] [] pos) X.env = (do
      let ov ← eval o X.env
      standAt apos.atName
      let (f, first) ← holding [ov] (getMethod ov m pl)
      callWith pos f first (backTo pos (starEach [] X.env)) (backToKw pos (keywordEach [] X.env)))) :
    PE X (.Call (.Attribute o m apos) [] [] pos) (tMethS C m sp E ta tNil) := by
  refine ⟨fun pins s σ H Q I h => ?_⟩
  refine PySem.W.methodCall_KW (pl := pl) (thn (he.run pins s σ H _ I h) fun u s1 ⟨x, H1, I1, rx, a, dx, fs, ex, ea, l, q⟩ => ?_) ht
  subst ex
  obtain rfl : u = Value.ref a := rx
  refine getmeth_ok I1 ea c hm l ?_
  exact PySem.W.callWith_K0 (first := [.ref a]) I1.kIn hm.kp (run_fnS0 (us := [.ref a]) (vs := [.ref a]) F hr hb (hx σ) I1 (.cons rfl .nil) q)
theorem lookup_none {f : Str} : ∀ {fs : List (Str × V)}, (∀ x ∈ fs.map (·.1), x ≠ f) → fs.lookup f = none
  | [], _ => rfl
  | (s, v) :: fs, h => by
    have h1 : s ≠ f := h s (by simp)
    rw [List.lookup_cons, show (f == s) = false from beq_eq_false_iff_ne.mpr (Ne.symm h1)]
    exact lookup_none fun x hx => h x (by simp at hx ⊢; exact .inr hx)
theorem rd_meth (hno : ∀ g ∈ G.θ.fl c, G.θ.nm g ≠ m) {σ : L2.St} {H : Hp} {Q : VK} (h : rdM G (mMeth c N F q ma) σ H Q) : tMethS (G.θ.cA c) m (spG G.θ [] N F) (WE G.W) (rdP G.θ G.io q) (rdA G ma) σ H Q := by
  obtain ⟨fx, L, tv, env, td, r, env', c0, e1, k⟩ := h
  show rdP G.θ G.io q σ H fun x H1 => ∃ a dx fs, x = .ref a ∧ H1 a = some (.ins (G.θ.cA c) dx fs) ∧ fs.lookup m = none ∧ rdA G ma σ H1 fun vs H2 => spG G.θ [] N F (x :: vs) H2 Q (WE G.W σ)
  unfold mMeth at e1
  cases hq : q env with
  | none => rw [hq] at e1; cases e1
  | some d =>
    rw [hq] at e1
    simp only at e1
    split at e1
    · rename_i hz
      refine ⟨fx, L, tv, env, td, d, c0, hq, fun v H1 L1 π x1 o1 => ?_⟩
      split at e1
      · rename_i ow c' ns xs
        split at e1
        · rename_i hc
          subst hc
          obtain ⟨a, dx, fs, π', rfl, of, hH, hn, os⟩ := o1.objP
          refine ⟨a, dx, fs, rfl, hH, lookup_none fun x hx => ?_, ?_⟩
          · rw [hn] at hx
            obtain ⟨g, hg, rfl⟩ := List.mem_map.mp hx
            exact hno g (of.ns g hg)
          · have c1 := (c0.ext x1).push ((o1.frozen hz).any _)
            split at e1
            · rename_i ds env1 hm
              split at e1
              · rename_i hu
                rw [Bool.and_eq_true, decide_eq_true_eq] at hu
                cases hf : F (.obj ow c' ns xs :: D.frs ds) with
                | none => rw [hf] at e1; cases e1
                | some qq =>
                  obtain ⟨r', ds'⟩ := qq
                  rw [hf] at e1
                  cases e1
                  refine ⟨fx, L1, _, env, _, .ok ds, _, c1, hm, fun vs H2 L2 hl c2 => ?_⟩
                  refine call_core (L1 := L2) (ds' := ds') (tv := tv) (td := td) (vs := .ref a :: vs) (ds := .obj ow c' ns xs :: ds) ?_ (by simp [hl]) hu.1 (by simpa using hu.2) ?_ k
                  · simpa [List.append_assoc] using c2
                  · rw [D.frs, (o1.frozen hz).fr_id]
                    exact hf
              · cases e1
            · rename_i x env1 hm
              cases e1
              exact ⟨fx, L1, _, env, _, .error x, _, c1, hm, fun cls dd H2 L2 ex c2 => k cls dd H2 L2 ex c2.pop⟩
            · cases e1
        · cases e1
      · cases e1
    · cases e1
theorem xm_meth {pl : Sem Bool} (hK : X.K = G.θ.K) (cf : CF G.θ c) (hno : ∀ g ∈ G.θ.fl c, G.θ.nm g ≠ m) (hm : Meth X.K (G.θ.cA c) m f) (Fk : FnOk X.prog X.w X.K X.mg X.base (L2.CX X.prog X.w) k f fd ps (spG G.θ [] N F)) (hr : Room k X.A) (hb : Binds X.K fd ps []) (tk : Takes X G.W)
    (he : PE X o (rdP G.θ G.io q)) (ha : PA X (e :: es) (rdA G ma)) (hst : starEach (e :: es) X.env = (false, eval e X.env) :: starEach es X.env := by rfl) (hpl : (backTo pos (starEach es X.env)).any (·.1) = false := by rfl)
    (ht : eval (.Call (.Attribute o m apos) (e :: es) [] pos) X.env = (do
      let ov ← eval o X.env
      standAt apos.atName
      let (f, first) ← holding [ov] (getMethod ov m pl)
      callWith pos f first (backTo pos (starEach (e :: es) X.env)) (backToKw pos (keywordEach [] X.env))) := by rfl) : PE X (.Call (.Attribute o m apos) (e :: es) [] pos) (rdM G (mMeth c N F q ma)) :=
  pe_weak (pe_methS3 (E := WE G.W) he (by rw [hK]; exact cf.cls) hm Fk hr hb (fun σ => passAt tk σ) ha hst hpl ht) fun _ _ _ h => rd_meth hno h
theorem xm_meth0 {pl : Sem Bool} (hK : X.K = G.θ.K) (cf : CF G.θ c) (hno : ∀ g ∈ G.θ.fl c, G.θ.nm g ≠ m) (hm : Meth X.K (G.θ.cA c) m f) (Fk : FnOk X.prog X.w X.K X.mg X.base (L2.CX X.prog X.w) k f fd ps (spG G.θ [] N F)) (hr : Room k X.A) (hb : Binds X.K fd ps []) (tk : Takes X G.W)
    (he : PE X o (rdP G.θ G.io q))
    (ht : eval (.Call (.Attribute o m apos) [] [] pos) X.env = (do
      let ov ← eval o X.env
      standAt apos.atName
      let (f, first) ← holding [ov] (getMethod ov m pl)
      callWith pos f first (backTo pos (starEach [] X.env)) (backToKw pos (keywordEach [] X.env))) := by rfl) : PE X (.Call (.Attribute o m apos) [] [] pos) (rdM G (mMeth c N F q aNil)) :=
  pe_weak (pe_methS0 (E := WE G.W) he (by rw [hK]; exact cf.cls) hm Fk hr hb (fun σ => passAt tk σ) ht) fun σ H Q h => by
    obtain ⟨fx, L, tv, env, td, d, c0, e1, k⟩ := rd_meth hno h
    refine ⟨fx, L, tv, env, td, d, c0, e1, fun v H' L' π x o => ?_⟩
    obtain ⟨a, dx, fs, h1, h2, h3, h4⟩ := k v H' L' π x o
    refine ⟨a, dx, fs, h1, h2, h3, ?_⟩
    obtain ⟨fx', L'', tv', env', td', r, env'', c1, e2, k2⟩ := h4
    cases e2
    exact k2 [] H' L'' rfl (by simpa using c1)
end
end Y

namespace Y
open PySem L2 PySem.Spec PyProof.Rows ClX

/-! ### in, not in, of flat things -/
def flatOf : D → Option V
  | .non => some .non
  | .bl b => some (.bl b)
  | .int i => some (.int i)
  | .str s => some (.str s)
  | _ => none
def flatsOf : List D → Option (List V)
  | [] => some []
  | d :: r => match flatOf d with | some v => (match flatsOf r with | some vs => some (v :: vs) | none => none) | none => none
def itemsOf : D → Option (List D)
  | .lst _ xs => some xs
  | .tup xs => some xs
  | .scr xs => some xs
  | _ => none
def inB (x y : D) : Option Bool := match flatOf x with
  | some v => (match itemsOf y with | some ys => (match flatsOf ys with | some vs => some (inV v vs) | none => none) | none => none)
  | none => none
def inD (x y : D) : Option D := match inB x y with | some b => some (.bl b) | none => none
def notInD (x y : D) : Option D := match inB x y with | some b => some (.bl (!b)) | none => none
section
variable {θ : Th} {L : LM} {H : Hp} {X : Cx}
theorem own_flat {π : Option (List Nat)} {v w : V} {d : D} (o : Own θ L H π v d) (h : flatOf d = some w) : v = w ∧ flatV w = true := by
  cases o <;> first
    | (cases h; exact ⟨rfl, rfl⟩)
    | cases h
theorem owns_flat {π : Option (List Nat)} : ∀ {k : Nat} {vs ws : List V} {ds : List D}, Owns θ L H π k vs ds → flatsOf ds = some ws → vs = ws ∧ ws.all flatV = true
  | _, _, _, _, .nil, h => by cases h; exact ⟨rfl, rfl⟩
  | _, _, _, _, .cons (v := v) (d := d) (ds := ds) a b, h => by
    unfold flatsOf at h
    cases e : flatOf d with
    | none => rw [e] at h; cases h
    | some w =>
      cases e2 : flatsOf ds with
      | none => rw [e, e2] at h; cases h
      | some ws' =>
        rw [e, e2] at h
        cases h
        obtain ⟨h1, h2⟩ := own_flat a e
        obtain ⟨h3, h4⟩ := owns_flat b e2
        subst h1 h3
        exact ⟨rfl, by rw [List.all_cons, h2, h4]; rfl⟩
theorem own_items {π : Option (List Nat)} {v : V} {d : D} {ds : List D} (o : Own θ L H π v d) (h : itemsOf d = some ds) : ∃ a vs π', v = .ref a ∧ (SqL θ.K H a vs ∨ SqT θ.K H a vs) ∧ Owns θ L H π' 0 vs ds := by
  unfold itemsOf at h
  split at h
  · cases h; obtain ⟨a, vs, π', h1, h2, h3⟩ := o.seqL; exact ⟨a, vs, π', h1, .inl h2, h3⟩
  · cases h; obtain ⟨a, vs, h1, h2, h3⟩ := o.seqT; exact ⟨a, vs, none, h1, .inr h2, h3⟩
  · cases h; obtain ⟨a, vs, h1, h2, h3⟩ := o.seqR; exact ⟨a, vs, none, h1, .inl h2, h3⟩
  · cases h
theorem inB_ok {π π' : Option (List Nat)} {x y : V} {dx dy : D} {b : Bool} (hK : X.K = θ.K) (ox : Own θ L H π x dx) (oy : Own θ L H π' y dy) (h : inB dx dy = some b) : ∃ p xs, y = .ref p ∧ (SqL X.K H p xs ∨ SqT X.K H p xs) ∧ flatV x = true ∧ xs.all flatV = true ∧ b = inV x xs := by
  unfold inB at h
  split at h
  · rename_i v hv
    split at h
    · rename_i ys hy
      split at h
      · rename_i vs hvs
        cases h
        obtain ⟨a, ws, π2, h1, h2, h3⟩ := own_items oy hy
        obtain ⟨h4, h5⟩ := own_flat ox hv
        obtain ⟨h6, h7⟩ := owns_flat h3 hvs
        subst h4 h6
        exact ⟨a, _, h1, by rw [hK]; exact h2, h5, h7, rfl⟩
      · cases h
    · cases h
  · cases h
theorem of_in (hK : X.K = θ.K) : OpF X θ (compareOp .In) inD := by
  intro pins s σ H x y v u Q I rx ry ⟨n, L, π, π', dx, dy, d, ok, ox, oy, hf, k⟩
  unfold inD at hf
  split at hf
  · rename_i b hb
    cases hf
    obtain ⟨p, xs, h1, h2, h3, h4, h5⟩ := inB_ok hK ox oy hb
    exact op_in_seq pins s σ H x y v u Q I rx ry ⟨p, xs, h1, h2, h3, h4, by rw [if_neg Bool.false_ne_true, ← h5]; exact k _ H L (ExtN.refl ok) .bl⟩
  · cases hf
theorem of_notIn (hK : X.K = θ.K) : OpF X θ (compareOp .NotIn) notInD := by
  intro pins s σ H x y v u Q I rx ry ⟨n, L, π, π', dx, dy, d, ok, ox, oy, hf, k⟩
  unfold notInD at hf
  split at hf
  · rename_i b hb
    cases hf
    obtain ⟨p, xs, h1, h2, h3, h4, h5⟩ := inB_ok hK ox oy hb
    exact op_notIn_seq pins s σ H x y v u Q I rx ry ⟨p, xs, h1, h2, h3, h4, by rw [if_pos rfl, ← h5]; exact k _ H L (ExtN.refl ok) .bl⟩
  · cases hf
theorem nu_in : NU inD := nu_of (fun y => by cases y <;> rfl) (fun x => by cases x <;> rfl)
theorem nu_notIn : NU notInD := nu_of (fun y => by cases y <;> rfl) (fun x => by cases x <;> rfl)
end

/-! ### chains of two comparisons; minus -/
def pChain (f g : D → D → Option D) (a b c : P) : P := fun env => match a env with
  | some x => (match b env with
    | some y => (match f x y with
      | some (.bl true) => (match c env with | some z => (match g y z with | some d => if d.frz then some d else none | none => none) | none => none)
      | some (.bl false) => some (.bl false)
      | _ => none)
    | none => none)
  | none => none
def pNeg (a : P) : P := fun env => match a env with | some (.int i) => some (.int (-i)) | _ => none
section
variable {X : Cx} {G : Gc} {θ : Th} {io : List Nat} {e a b c : Expr} {es : List Expr} {pos : Pos} {p q r : P} {m : M}
theorem rd_chain {f g : D → D → Option D} {σ : L2.St} {H : Hp} {Q : VK} (h : rdP θ io (pChain f g p q r) σ H Q) : tChain (rF θ f) (rF θ g) (rdP θ io p) (rdP θ io q) (rdP θ io r) σ H Q := by
  obtain ⟨fx, L, tv, env, td, d, c0, e1, k⟩ := h
  show rdP θ io p σ H fun x H1 => rdP θ io q σ H1 fun y H2 => rF θ f x y H2 fun z H3 => ∃ k, z = .bl k ∧ (if k = true then rdP θ io r σ H3 fun w' H4 => rF θ g y w' H4 Q else Q (.bl false) H3)
  unfold pChain at e1
  cases hp : p env with
  | none => rw [hp] at e1; cases e1
  | some x =>
    cases hq : q env with
    | none => rw [hp, hq] at e1; cases e1
    | some y =>
      rw [hp, hq] at e1
      simp only at e1
      refine ⟨fx, L, tv, env, td, x, c0, hp, fun v H1 L1 π1 x1 o1 => ?_⟩
      refine ⟨fx, L1, tv, env, td, y, c0.ext x1, hq, fun w H2 L2 π2 x2 o2 => ?_⟩
      have ok2 := x2.labOk (x1.labOk c0.cr.lab)
      split at e1
      · rename_i hf
        refine ⟨0, L2, π1, π2, x, y, .bl true, ok2, o1.ext x2 (x1.labOk c0.cr.lab), o2, hf, fun u H3 L3 x3 o3 => ?_⟩
        obtain ⟨L4, x4, o4⟩ := x3.froz o3 rfl
        cases o4
        refine ⟨true, rfl, iteT ?_⟩
        split at e1
        · rename_i z hz
          split at e1
          · rename_i d' hg
            split at e1
            · rename_i hfz
              cases e1
              refine ⟨fx, L4, tv, env, td, z, ((c0.ext x1).ext x2).ext x4, hz, fun w3 H5 L5 π5 x5 o5 => ?_⟩
              have ok4 := x4.labOk ok2
              refine ⟨0, L5, π2, π5, y, z, _, x5.labOk ok4, (o2.ext x4 ok2).ext x5 ok4, o5, hg, fun u6 H6 L6 x6 o6 => ?_⟩
              obtain ⟨L7, x7, o7⟩ := x6.froz o6 hfz
              exact k u6 H6 L7 none ((((x1.trans x2).trans x4).trans x5).trans x7) o7
            · cases e1
          · cases e1
        · cases e1
      · rename_i hf
        cases e1
        refine ⟨0, L2, π1, π2, x, y, .bl false, ok2, o1.ext x2 (x1.labOk c0.cr.lab), o2, hf, fun u H3 L3 x3 o3 => ?_⟩
        obtain ⟨L4, x4, o4⟩ := x3.froz o3 rfl
        cases o4
        exact ⟨false, rfl, iteF (k _ H3 L4 none ((x1.trans x2).trans x4) .bl)⟩
      · cases e1
theorem xp_chain {op op' : CmpOp} {f g : D → D → Option D} (ho : OpF X θ (compareOp op) f) (ho' : OpF X θ (compareOp op') g) (ha : PE X a (rdP θ io p)) (hb : PE X b (rdP θ io q)) (hc : PE X c (rdP θ io r)) (hm : lastMarks [op, op'] [b, c] = false := by with_unfolding_all rfl) :
    PE X (.Compare a [op, op'] [b, c] pos) (rdP θ io (pChain f g p q r)) := pe_weak (pe_chain ho ho' ha hb hc hm) fun _ _ _ h => rd_chain h
theorem xt_pchain {op op' : CmpOp} {f g : D → D → Option D} (ho : OpF X G.θ (compareOp op) f) (ho' : OpF X G.θ (compareOp op') g) (ha : PE X a (rdP G.θ G.io p)) (hb : PE X b (rdP G.θ G.io q)) (hc : PE X c (rdP G.θ G.io r)) (hm : lastMarks [op, op'] [b, c] = false := by with_unfolding_all rfl) :
    L2.PT X (.Compare a [op, op'] [b, c] pos) (rdT G (tM (mP (pChain f g p q r)))) := pt_weak (pt_chain ho ho' ha hb hc hm) fun σ H Q h => by
  show tChain (rF G.θ f) (rF G.θ g) (rdP G.θ G.io p) (rdP G.θ G.io q) (rdP G.θ G.io r) σ H fun x H' => ∃ k, x = .bl k ∧ Q k H'
  exact rd_chain (rd_mp (rd_t h))
theorem xp_neg (ha : PE X a (rdP θ io p)) : PE X (.UnaryOp .USub a pos) (rdP θ io (pNeg p)) := pe_weak (pe_un un_neg ha) fun σ H Q ⟨fx, L, tv, env, td, d, c, e1, k⟩ => by
  show rdP θ io p σ H fun x H1 => ∃ i, x = .int i ∧ Q (.int (-i)) H1
  unfold pNeg at e1
  split at e1
  · rename_i i hp
    cases e1
    exact ⟨fx, L, tv, env, td, _, c, hp, fun v H1 L1 π x o => by cases o; exact ⟨i, rfl, k _ H1 L1 none x .int⟩⟩
  · cases e1
/-- a constant of a class, read off the class -/
theorem xp_cval {f : Str} {C : Addr} {mc u : Value} {v : V} {d : D} (hC : PE X e (tC (.ref C))) (rd : CRead X.K C mc) (cv : CVal X.K C mc f v u) (o : ∀ L H, Own θ L H none v d) (hb : attributeBase e f X.env (eval e X.env) = eval e X.env := by rfl) : PE X (.Attribute e f pos) (rdP θ io (pC d)) :=
  pe_weak (pe_cval hC hb) fun σ H Q ⟨fx, L, tv, env, td, d', c, e1, k⟩ => by
    cases e1
    exact ⟨C, mc, v, u, rfl, rd, cv, k v H L none (Ext.refl c.cr.lab) (o L H)⟩

/-! ### methods of texts -/
def rMS (θ : Th) (f : D → List D → Option D) : V → List V → Hp → VK → Prop := fun x xs H Q => ∃ n L π dx ds d, LabOk L H ∧ Own θ L H π x dx ∧ OwA θ L H xs ds ∧ f dx ds = some d ∧ ∀ v H' L', ExtN n L H L' H' → Own θ L' H' (some [n]) v d → Q v H'
def pMS (f : D → List D → Option D) (p : P) (a : PL) : P := fun env => match p env with
  | some (.str s) => (match a env with | some ds => (match f (.str s) ds with | some d => if d.frz then some d else none | none => none) | none => none)
  | _ => none
theorem rd_ms {f : D → List D → Option D} {pl : PL} {σ : L2.St} {H : Hp} {Q : VK} (h : rdP θ io (pMS f p pl) σ H Q) : rdP θ io p σ H fun x H1 => (∃ a, x = .str a) ∧ rdPL θ io pl σ H1 fun ys H2 => rMS θ f x ys H2 Q := by
  obtain ⟨fx, L, tv, env, td, d, c0, e1, k⟩ := h
  unfold pMS at e1
  split at e1
  · rename_i s hp
    split at e1
    · rename_i ds ha
      split at e1
      · rename_i d' hf
        split at e1
        · rename_i hz
          cases e1
          refine ⟨fx, L, tv, env, td, _, c0, hp, fun v H1 L1 π x1 o1 => ?_⟩
          cases o1
          refine ⟨⟨s, rfl⟩, fx, L1, tv, env, td, ds, c0.ext x1, ha, fun vs H2 L2 x2 o2 => ?_⟩
          refine ⟨0, L2, none, .str s, ds, _, x2.labOk (x1.labOk c0.cr.lab), .str, o2, hf, fun u H3 L3 x3 o3 => ?_⟩
          obtain ⟨L4, x4, o4⟩ := x3.froz o3 hz
          exact k u H3 L4 none ((x1.trans x2).trans x4) o4
        · cases e1
      · cases e1
    · cases e1
  · cases e1
theorem xp_ms0 {id : String} {name : Str} {apos : Pos} {f : D → List D → Option D} (slot : Slot "str" name id) (ty : typeOf (.builtin id) = pure (.type "method_descriptor")) (rule : MtR X id (rMS θ f)) (ho : PE X e (rdP θ io p))
    (hbase : attributeBase e name X.env (eval e X.env) = eval e X.env := by rfl) (hline : (apos.endLine == pos.line) = true := by rfl) : PE X (.Call (.Attribute e name apos) [] [] pos) (rdP θ io (pMS f p plNil)) :=
  pe_weak (pe_m0 slot ty rule ho hbase hline) fun σ H Q h => by
    obtain ⟨fx, L, tv, env, td, d, c0, e1, k⟩ := rd_ms h
    refine ⟨fx, L, tv, env, td, d, c0, e1, fun v H' L' π x o => ?_⟩
    obtain ⟨h1, fx', L'', tv', env', td', ds, c1, e2, k2⟩ := k v H' L' π x o
    cases e2
    exact ⟨h1, k2 [] H' L'' (Ext.refl c1.cr.lab) .nil⟩
theorem xp_ms1 {id : String} {name : Str} {apos : Pos} {f : D → List D → Option D} (slot : Slot "str" name id) (ty : typeOf (.builtin id) = pure (.type "method_descriptor")) (rule : MtR X id (rMS θ f)) (ho : PE X e (rdP θ io p)) (ha : PE X a (rdP θ io q))
    (hs : starEach [a] X.env = [(false, eval a X.env)] := by rfl) (hbase : attributeBase e name X.env (eval e X.env) = eval e X.env := by rfl) (hline : (apos.endLine == pos.line) = true := by rfl) : PE X (.Call (.Attribute e name apos) [a] [] pos) (rdP θ io (pMS f p (plCons q plNil))) :=
  pe_weak (pe_m1 slot ty rule ho ha hs hbase hline) fun σ H Q h => by
    obtain ⟨fx, L, tv, env, td, d, c0, e1, k⟩ := rd_ms h
    refine ⟨fx, L, tv, env, td, d, c0, e1, fun v H' L' π x o => ?_⟩
    obtain ⟨h1, fx', L'', tv', env', td', ds, c1, e2, k2⟩ := k v H' L' π x o
    refine ⟨h1, ?_⟩
    unfold plCons at e2
    cases hq : q env' with
    | none => rw [hq] at e2; cases e2
    | some d2 =>
      rw [hq] at e2
      simp only [plNil] at e2
      cases e2
      exact ⟨fx', L'', tv', env', td', d2, c1, hq, fun w H2 L2 π2 x2 o2 => k2 [w] H2 L2 x2 (.cons ⟨π2, o2⟩ .nil)⟩
def startswithD : D → List D → Option D
  | .str s, [.str t] => some (.bl (Txt.startswith s t))
  | _, _ => none
def isdigitD : D → List D → Option D
  | .str s, [] => some (.bl (Txt.isdigit s))
  | _, _ => none
theorem ms_startswith : MtR X "str.startswith" (rMS θ startswithD) := by
  intro pins s σ H x xs v us Q I rx rs ⟨n, L, π, dx, ds, d, ok, ox, oa, hf, k⟩
  unfold startswithD at hf
  split at hf
  · cases hf; cases ox
    cases oa with
    | cons h t => cases t; obtain ⟨π2, o2⟩ := h; cases o2; exact mt_startswith pins s σ H _ _ v us Q I rx rs ⟨_, _, rfl, rfl, k _ H L (ExtN.refl ok) .bl⟩
  · cases hf
theorem ms_isdigit : MtR X "str.isdigit" (rMS θ isdigitD) := by
  intro pins s σ H x xs v us Q I rx rs ⟨n, L, π, dx, ds, d, ok, ox, oa, hf, k⟩
  unfold isdigitD at hf
  split at hf
  · cases hf; cases ox; cases oa
    exact mt_isdigit pins s σ H _ _ v us Q I rx rs ⟨_, rfl, rfl, trivial, k _ H L (ExtN.refl ok) .bl⟩
  · cases hf

/-! ### slices of texts -/
def rdO (θ : Th) (io : List Nat) (p : List D → Option (Option Int)) : TO := fun σ H Q => ∃ fx L tv env td o, At θ io fx L H σ tv env td ∧ p env = some o ∧ ∀ H' L', Ext L H L' H' → Q o H'
def oNone : List D → Option (Option Int) := fun _ => some none
def oSome (p : P) : List D → Option (Option Int) := fun env => match p env with | some (.int i) => some (some i) | _ => none
theorem po_weak {x : Option Expr} {t t' : TO} (h : PO X x t) (w : ∀ σ H Q, t' σ H Q → t σ H Q) : PO X x t' := ⟨fun pins s σ H Q I q => h.run pins s σ H Q I (w σ H Q q)⟩
theorem xo_none : PO X none (rdO θ io oNone) := po_weak po_none fun σ H Q ⟨fx, L, tv, env, td, o, c, e1, k⟩ => by
  cases e1
  exact k H L (Ext.refl c.cr.lab)
theorem xo_some (h : PE X e (rdP θ io p)) : PO X (some e) (rdO θ io (oSome p)) := po_weak (po_some h) fun σ H Q ⟨fx, L, tv, env, td, o, c, e1, k⟩ => by
  unfold oSome at e1
  split at e1
  · rename_i i hp
    cases e1
    exact ⟨fx, L, tv, env, td, _, c, hp, fun v H' L' π x o => by cases o; exact ⟨i, rfl, k H' L' x⟩⟩
  · cases e1
def pSlS (p : P) (lo hi : List D → Option (Option Int)) : P := fun env => match p env with
  | some (.str s) => (match lo env with | some l => (match hi env with | some h => if lenOk s.length then some (.str (cutS s l h)) else none | none => none) | none => none)
  | _ => none
theorem xp_slS {lo hi : Option Expr} {pl ph : List D → Option (Option Int)} {p2 : Pos} (he : PE X e (rdP θ io p)) (hl : PO X lo (rdO θ io pl)) (hh : PO X hi (rdO θ io ph)) : PE X (.Subscript e (.Slice lo hi none p2) pos) (rdP θ io (pSlS p pl ph)) :=
  pe_weak (pe_slice sl_str he hl hh) fun σ H Q ⟨fx, L, tv, env, td, d, c, e1, k⟩ => by
    show rdP θ io p σ H fun x H1 => rdO θ io pl σ H1 fun l H2 => rdO θ io ph σ H2 fun u H3 => ∃ z, x = .str z ∧ z.length ≤ sizeLine ∧ Q (.str (cutS z l u)) H3
    unfold pSlS at e1
    split at e1
    · rename_i s hp
      split at e1
      · rename_i l hl2
        split at e1
        · rename_i h hh2
          split at e1
          · rename_i hz
            cases e1
            refine ⟨fx, L, tv, env, td, _, c, hp, fun v H1 L1 π x1 o1 => ?_⟩
            cases o1
            refine ⟨fx, L1, tv, env, td, l, c.ext x1, hl2, fun H2 L2 x2 => ?_⟩
            refine ⟨fx, L2, tv, env, td, h, (c.ext x1).ext x2, hh2, fun H3 L3 x3 => ?_⟩
            exact ⟨s, rfl, of_decide_eq_true hz, k _ H3 L3 none ((x1.trans x2).trans x3) .str⟩
          · cases e1
        · cases e1
      · cases e1
    · cases e1
end
end Y

namespace Y
open PySem L2 PySem.Spec PyProof.Rows ClX

/-! ### an owned object of a name is changed, a temporary moved below it -/
/-- root n goes below p; what stood below p is forgotten -/
def movB (n : Nat) (p : List Nat) : Lab → Lab
  | .at (k :: τ) => if k = n then .at (p ++ τ) else if p.isPrefixOf (k :: τ) then .no else .at (k :: τ)
  | l => l
theorem good_movB (n : Nat) (p : List Nat) : GoodMap (movB n p) := ⟨rfl, rfl⟩
theorem movB_top {n : Nat} {p τ : List Nat} : movB n p (.at ([n] ++ τ)) = .at (p ++ τ) := if_pos rfl
theorem movB_out {n : Nat} {p : List Nat} {k : Nat} {τ : List Nat} (h1 : k ≠ n) (h2 : ¬ p <+: (k :: τ)) : movB n p (.at (k :: τ)) = .at (k :: τ) := by
  show (if k = n then Lab.at (p ++ τ) else if p.isPrefixOf (k :: τ) then .no else .at (k :: τ)) = _
  rw [if_neg h1, if_neg]
  intro z
  exact h2 (List.isPrefixOf_iff_prefix.mp z)
theorem pre2 {i j k : Nat} {τ : List Nat} (h : [i, j] <+: (i :: k :: τ)) : k = j := by
  obtain ⟨t, e⟩ := h
  have := List.cons.inj e
  exact (List.cons.inj this.2).1.symm
theorem pre2' {i j k : Nat} {τ : List Nat} (h : [i, j] <+: (k :: τ)) : k = i := by
  obtain ⟨t, e⟩ := h
  exact (List.cons.inj e).1.symm
section
variable {θ : Th} {io : List Nat} {fx : Fx} {L : LM} {H : Hp} {σ : L2.St} {tv : List (Option V)} {env td : List D} {v : V} {d : D}
/-- the name i holds an owned object at a; it becomes o', its data d'; the temporary goes to its place j -/
theorem At.node {i j : Nat} {a : Addr} {o' : HO} {d' : D} (c : At θ io fx L H σ (tv ++ [some v]) env (td ++ [d])) (hi : σ[i]? = some (some (.ref a))) (hL : L a = .at [i])
    (own : Own θ (fun a => movB (σ ++ tv).length [i, j] (L a)) (upd H a o') (some [i]) (.ref a) d') : At θ io fx (fun a => movB (σ ++ tv).length [i, j] (L a)) (upd H a o') σ tv (env.set i d') td := by
  have hl := c.len
  have ht : tv.length = td.length := by have := c.tlen; simpa using this
  have hn : i < σ.length := (List.getElem?_eq_some_iff.mp hi).1
  have c2 := c.pop
  have gL : movB (σ ++ tv).length [i, j] (L a) = .at [i] := by
    rw [hL]
    refine movB_out (by rw [List.length_append]; omega) fun z => ?_
    obtain ⟨t, e⟩ := z
    exact absurd (List.cons.inj e).2 (by simp)
  have keepH : ∀ b, b ≠ a → ∀ o, H b = some o → upd H a o' b = some o := fun b hb o e => by rw [upd_ne hb]; exact e
  have hfz : FZ L H (fun a => movB (σ ++ tv).length [i, j] (L a)) (upd H a o') := fun b e => ⟨by show movB _ _ (L b) = .fz; rw [e]; rfl, keepH b fun z => by rw [z, hL] at e; cases e⟩
  refine ⟨⟨by simp [hl, ht], fun k e q => ?_, fun b z => ?_, fun b o e => ?_, c2.cr.pin⟩, by simpa using hl, c.ioe, c.lt⟩
  · by_cases hik : k = i
    · subst hik
      rw [List.getElem?_append_left (by rw [List.length_set, ← hl]; exact hn), List.getElem?_set_self (by rw [← hl]; exact hn)] at q
      cases q
      exact .inr ⟨_, by rw [List.getElem?_append_left hn]; exact hi, own⟩
    · have q' : (env ++ td)[k]? = some e := by
        by_cases hke : k < env.length
        · rw [List.getElem?_append_left (by rw [List.length_set]; exact hke), List.getElem?_set_ne (Ne.symm hik)] at q
          rw [List.getElem?_append_left hke]; exact q
        · rw [List.getElem?_append_right (by rw [List.length_set]; omega), List.length_set] at q
          rw [List.getElem?_append_right (by omega)]; exact q
      have hkl : k < (σ ++ tv).length := by rw [c2.cr.len]; exact (List.getElem?_eq_some_iff.mp q').1
      rcases c2.cr.own k e q' with z | ⟨w, e1, e2⟩
      · exact .inl z
      · refine .inr ⟨w, e1, e2.tr hfz _ fun b τ eb => ⟨?_, keepH b fun z => ?_⟩⟩
        · show movB _ _ (L b) = _
          rw [eb]
          exact movB_out (Nat.ne_of_lt hkl) fun z => hik (pre2' z)
        · rw [z, hL] at eb
          injection eb with eb
          exact hik (List.cons.inj eb).1.symm
  · by_cases hb : b = a
    · subst hb; rw [upd_same]; exact fun q => nomatch q
    · rw [upd_ne hb]
      refine c2.cr.lab b fun q => z ?_
      show movB _ _ (L b) = .no
      rw [q]; rfl
  · obtain ⟨h1, h2⟩ := c2.cr.base b o e
    refine ⟨fun z => ?_, fun z => ?_⟩
    · obtain ⟨h3, h4⟩ := h1 z
      exact ⟨by show movB _ _ (L b) = .no; rw [h3]; rfl, keepH b (fun z => by rw [z, hL] at h3; cases h3) o h4⟩
    · obtain ⟨h3, h4⟩ := h2 z
      exact ⟨by show movB _ _ (L b) = .fz; rw [h3]; rfl, keepH b (fun z => by rw [z, hL] at h3; cases h3) o h4⟩
/-- a child of the object, elsewhere than at j, as it was -/
theorem Own.child {i j k n : Nat} {a : Addr} {o' : HO} {w : V} {e : D} (o : Own θ L H (some [i, k]) w e) (hL : L a = .at [i]) (hk : k ≠ j) (hn : i ≠ n) : Own θ (fun a => movB n [i, j] (L a)) (upd H a o') (some [i, k]) w e := by
  refine o.tr (fun b eb => ⟨by show movB _ _ (L b) = .fz; rw [eb]; rfl, fun o q => ?_⟩) _ fun b τ eb => ⟨?_, fun o q => ?_⟩
  · rw [upd_ne (fun z => by rw [z, hL] at eb; cases eb)]; exact q
  · show movB _ _ (L b) = _
    rw [eb]
    exact movB_out hn fun z => hk (pre2 z)
  · rw [upd_ne (fun z => by rw [z, hL] at eb; injection eb with eb; exact absurd (List.cons.inj eb).2 (by simp))]; exact q
/-- the temporary, below the object -/
theorem Own.under {i j n : Nat} {a : Addr} {o' : HO} {w : V} {e : D} (o : Own θ L H (some [n]) w e) (hL : L a = .at [i]) (hn : i ≠ n) : Own θ (fun a => movB n [i, j] (L a)) (upd H a o') (some [i, j]) w e := by
  refine o.tr (fun b eb => ⟨by show movB _ _ (L b) = .fz; rw [eb]; rfl, fun o q => ?_⟩) _ fun b τ eb => ⟨?_, fun o q => ?_⟩
  · rw [upd_ne (fun z => by rw [z, hL] at eb; cases eb)]; exact q
  · show movB _ _ (L b) = _
    rw [eb]
    exact movB_top
  · rw [upd_ne (fun z => by rw [z, hL] at eb; injection eb with eb; exact hn (List.cons.inj eb).1)]; exact q
/-- children of which one is new: at the end, or at j -/
theorem Owns.all_of {π : Option (List Nat)} : ∀ {k : Nat} {vs : List V} {ds : List D}, vs.length = ds.length → (∀ i w e, vs[i]? = some w → ds[i]? = some e → Own θ L H (π.map (· ++ [k + i])) w e) → Owns θ L H π k vs ds
  | _, [], [], _, _ => .nil
  | k, v :: vs, d :: ds, hl, h => by
    refine .cons (h 0 v d rfl rfl) (Owns.all_of (by simpa using hl) fun i w e h1 h2 => ?_)
    have := h (i + 1) w e (by simpa using h1) (by simpa using h2)
    rwa [show k + 1 + i = k + (i + 1) by omega]
  | _, [], d :: ds, hl, _ => by simp at hl
  | _, v :: vs, [], hl, _ => by simp at hl
theorem Owns.at {π : Option (List Nat)} {k : Nat} {vs : List V} {ds : List D} (h : Owns θ L H π k vs ds) {i : Nat} {w : V} {e : D} (h1 : vs[i]? = some w) (h2 : ds[i]? = some e) : Own θ L H (π.map (· ++ [k + i])) w e := by
  obtain ⟨w', e1, o⟩ := h.get h2
  rw [h1] at e1; cases e1
  exact o
end

/-! ### x.append(e), x a name -/
def mApp (i : Nat) (m : M) : M := fun env => match env[i]? with
  | some (.lst true _) => (match m env with
    | some (.ok d, env1) => (match env1[i]? with
      | some (.lst true xs) => if decide (xs.length < sizeLine) then (match d with | .unk => none | d => some (.ok .non, env1.set i (.lst true (xs ++ [d])))) else none
      | _ => none)
    | some (.error x, env1) => some (.error x, env1)
    | none => none)
  | _ => none
section
variable {X : Cx} {G : Gc} {k c : Nat} {pos apos : Pos} {e o : Expr} {m : M}
theorem xm_app {i : Nat} (hK : X.K = G.θ.K) (ho : PE X o (tVar i)) (he : PE X e (rdM G m)) (hbase : attributeBase o "append" X.env (eval o X.env) = eval o X.env := by rfl)
    (hfew : ((backTo pos (starEach [e] X.env)).all (fun x => !x.1) && (backToKw pos (keywordEach [] X.env)).all (fun x => x.1.isSome)
      && decide (([e] : List Expr).length + ([] : List Keyword).length + (if ([] : List Keyword).isEmpty then 0 else 1) < 30)) = true := by rfl)
    (hline : (apos.endLine == pos.line) = true := by rfl) (hs : starEach [e] X.env = (false, eval e X.env) :: starEach [] X.env := by rfl) (hplain : (backTo pos (starEach [] X.env)).any (·.1) = false := by rfl) :
    PE X (.Call (.Attribute o "append" apos) [e] [] pos) (rdM G (mApp i m)) :=
  pe_weak (pe_bm PySem.F.plainAttrs_list PySem.F.slot_list_append PySem.F.type_list_append mt_append ho (xa_cons he xa_nil hs) hbase hfew hline hs hplain) fun σ H Q ⟨fx, L, tv, env, td, r, env', c, e1, k⟩ => by
    show ∃ v, σ[i]? = some (some v) ∧ (tyV X.K "list" v H ∧ rdA G (aCons m aNil) σ H fun xs H2 => rAppend v xs H2 Q)
    unfold mApp at e1
    split at e1
    · rename_i xs0 hx0
      obtain ⟨w, hw, ow⟩ := c.var hx0 (fun z => nomatch z)
      obtain ⟨a, vs0, π0, rfl, sq, os0⟩ := ow.seqL
      refine ⟨_, hw, .inl ⟨rfl, vs0, by rw [hK]; exact sq⟩, ?_⟩
      split at e1
      · rename_i d env1 hm
        split at e1
        · rename_i xs hx
          split at e1
          · rename_i hz
            have hd : d ≠ .unk ∧ some (Except.ok D.non, env1.set i (.lst true (xs ++ [d]))) = some (r, env') := by
              cases d <;> first | (cases e1; exact ⟨(fun z => nomatch z), rfl⟩) | cases e1
            obtain ⟨hu, e2⟩ := hd
            cases e2
            refine ⟨fx, L, tv, env, td, .ok [d], env1, c, by unfold aCons aNil; rw [hm], fun ws H1 L1 hl c1 => ?_⟩
            cases ws with
            | nil => simp at hl
            | cons v wr =>
              cases wr with
              | cons => simp at hl
              | nil =>
                have c1' : At G.θ G.io fx L1 H1 σ (tv ++ [some v]) env1 (td ++ [d]) := c1
                obtain ⟨w1, hw1, ow1⟩ := c1'.var hx (fun z => nomatch z)
                rw [hw] at hw1
                cases hw1
                cases ow1 with
                | @lstO p a' vs ds hL hH os =>
                  obtain ⟨v', ev, ov⟩ := c1'.top hu
                  cases ev
                  have hil : i < σ.length := (List.getElem?_eq_some_iff.mp hw).1
                  have hne : i ≠ (σ ++ tv).length := by rw [List.length_append]; omega
                  refine ⟨a, vs, v, rfl, rfl, hH, by rw [os.length]; exact of_decide_eq_true hz, ?_⟩
                  refine k .non _ _ (At.push (c1'.node (j := xs.length) (d' := .lst true (xs ++ [d])) hw hL ?_) .non)
                  refine .lstO (show movB _ _ (L1 a) = _ from ?_) upd_same (Owns.all_of (by simp [os.length]) fun q w e h1 h2 => ?_)
                  · rw [hL]
                    refine movB_out hne fun z => ?_
                    obtain ⟨t, e⟩ := z
                    exact absurd (List.cons.inj e).2 (by simp)
                  · rcases Nat.lt_trichotomy q xs.length with hq | hq | hq
                    · rw [List.getElem?_append_left (by rw [os.length]; exact hq)] at h1
                      rw [List.getElem?_append_left hq] at h2
                      exact (os.at h1 h2).child hL (by omega) hne
                    · subst hq
                      rw [List.getElem?_append_right (by rw [os.length]; exact Nat.le_refl _), os.length, Nat.sub_self] at h1
                      rw [List.getElem?_append_right (Nat.le_refl _), Nat.sub_self] at h2
                      cases h1; cases h2
                      rw [Nat.zero_add]
                      exact ov.under hL hne
                    · rw [List.getElem?_eq_none (by simp; omega)] at h2
                      cases h2
          · cases e1
        · cases e1
      · rename_i x env1 hm
        cases e1
        exact ⟨fx, L, tv, env, td, .error x, _, c, by unfold aCons; rw [hm], k⟩
      · cases e1
    · cases e1
end
end Y

namespace Y
open PySem L2 PySem.Spec PyProof.Rows ClX

/-! ### x.f = e, x a name -/
def putD (f : Nat) (d : D) (ns : List Nat) (xs : List D) : List Nat × List D := match ns.idxOf? f with
  | some j => (ns, xs.set j d)
  | none => (ns ++ [f], xs ++ [d])
def sFldS (c : Nat) (i f : Nat) (m : M) : SM := fun env => match m env with
  | some (.ok d, env1) => (match env1[i]? with
    | some (.obj true c' ns xs) => if decide (c' = c) && decide (ns.length < 1000) then (match d with | .unk => none | d => some (.next, env1.set i (.obj true c (putD f d ns xs).1 (putD f d ns xs).2))) else none
    | _ => none)
  | some (.error x, env1) => some (.exc x, env1)
  | none => none
theorem putF_new {f : Str} {v : V} : ∀ {fs : List (Str × V)}, (∀ x ∈ fs.map (·.1), x ≠ f) → putF f v fs = fs ++ [(f, v)]
  | [], _ => rfl
  | (g, w) :: r, h => by
    have h1 : ¬ g = f := h g (by simp)
    show (if g = f then _ else (g, w) :: putF f v r) = _
    rw [if_neg h1, putF_new fun x hx => h x (by simp at hx ⊢; exact .inr hx)]
    rfl
theorem putF_old {θ : Th} {f : Nat} (hf : f < θ.top) {v : V} : ∀ {ns : List Nat} {fs : List (Str × V)} {j : Nat}, fs.map (·.1) = ns.map θ.nm → (∀ x ∈ ns, x < θ.top) → ns.idxOf? f = some j →
    (putF (θ.nm f) v fs).map (·.1) = ns.map θ.nm ∧ (putF (θ.nm f) v fs).map (·.2) = (fs.map (·.2)).set j v
  | [], fs, j, _, _, hj => by simp at hj
  | n :: ns, [], j, h, _, _ => by simp at h
  | n :: ns, (s, w) :: fs, j, h, hl, hj => by
    have h1 : s = θ.nm n := by simpa using (List.cons.inj h).1
    have h2 : fs.map (·.1) = ns.map θ.nm := (List.cons.inj h).2
    by_cases e : n = f
    · subst e
      have : j = 0 := by simpa [List.idxOf?_cons] using hj.symm
      subst this h1
      have e1 : putF (θ.nm n) v ((θ.nm n, w) :: fs) = (θ.nm n, v) :: fs := by
        show (if θ.nm n = θ.nm n then _ else _) = _
        rw [if_pos rfl]
      rw [e1]
      exact ⟨by simp [h2], rfl⟩
    · have e' : ¬ s = θ.nm f := fun z => e (θ.inj n f (hl n List.mem_cons_self) hf (by rw [← h1, z]))
      have e2 : (n == f) = false := beq_eq_false_iff_ne.mpr e
      rw [List.idxOf?_cons, e2] at hj
      cases q : ns.idxOf? f with
      | none => rw [q] at hj; simp at hj
      | some i =>
        rw [q] at hj
        have : j = i + 1 := by simpa using hj.symm
        subst this
        obtain ⟨h3, h4⟩ := putF_old (θ := θ) (v := v) hf h2 (fun x hx => hl x (List.mem_cons_of_mem _ hx)) q
        have e1 : putF (θ.nm f) v ((s, w) :: fs) = (s, w) :: putF (θ.nm f) v fs := by
          show (if s = θ.nm f then _ else _) = _
          rw [if_neg e']
        rw [e1]
        exact ⟨by simp [h1, h3], by simp [h4]⟩
theorem idxOf?_none {f : Nat} : ∀ {ns : List Nat}, ns.idxOf? f = none → f ∉ ns
  | [], _ => by simp
  | n :: ns, h => by
    by_cases e : n = f
    · subst e; simp [List.idxOf?_cons] at h
    · have e2 : (n == f) = false := beq_eq_false_iff_ne.mpr e
      rw [List.idxOf?_cons, e2] at h
      cases q : ns.idxOf? f with
      | none =>
        have := idxOf?_none q
        simp only [List.mem_cons, not_or]
        exact ⟨Ne.symm e, this⟩
      | some i => rw [q] at h; simp at h
theorem idxOf?_lt {f : Nat} : ∀ {ns : List Nat} {j : Nat}, ns.idxOf? f = some j → j < ns.length
  | [], j, h => by simp at h
  | n :: ns, j, h => by
    by_cases e : n = f
    · subst e
      have : j = 0 := by simpa [List.idxOf?_cons] using h.symm
      subst this; simp
    · have e2 : (n == f) = false := beq_eq_false_iff_ne.mpr e
      rw [List.idxOf?_cons, e2] at h
      cases q : ns.idxOf? f with
      | none => rw [q] at h; simp at h
      | some i =>
        rw [q] at h
        have : j = i + 1 := by simpa using h.symm
        subst this
        have := idxOf?_lt q
        simp; omega
section
variable {X : Cx} {G : Gc} {c : Nat} {pos pos' : Pos} {e o : Expr} {m : M}
theorem xs_fld {i f : Nat} {x : Str} (hK : X.K = G.θ.K) (hx : x = G.θ.nm f) (hf : f ∈ G.θ.fl c) (ho : PE X o (tVar i)) (he : PE X e (rdM G m)) (hs : swapsWith e (some (.Attribute o x pos')) pos.line X.env = pure false := by rfl) :
    PS X (.Assign [.Attribute o x pos'] e pos) (rdS G (sFldS c i f m)) := by
  subst hx
  refine ps_weak (ps_fld ho he hs) fun D σ H ⟨fx, L, tv, env, td, oo, env', c0, e1, k⟩ => ?_
  show rdM G m σ H fun y H1 => ∃ v, σ[i]? = some (some v) ∧ ∃ a C dx fs, v = .ref a ∧ H1 a = some (.ins C dx fs) ∧ Cls X.K C ∧ NoAttr X.K C (G.θ.nm f) ∧ fs.length < 1000 ∧ D.nx σ (upd H1 a (.ins C dx (putF (G.θ.nm f) y fs)))
  unfold sFldS at e1
  split at e1
  · rename_i d env1 hm
    split at e1
    · rename_i c' ns xs hx
      split at e1
      · rename_i hz
        rw [Bool.and_eq_true, decide_eq_true_eq, decide_eq_true_eq] at hz
        obtain ⟨rfl, hlt⟩ := hz
        have hd : d ≠ .unk ∧ some (Out.next, env1.set i (.obj true c' (putD f d ns xs).1 (putD f d ns xs).2)) = some (oo, env') := by
          cases d <;> first | (cases e1; exact ⟨(fun z => nomatch z), rfl⟩) | cases e1
        obtain ⟨hu, e2⟩ := hd
        cases e2
        refine ⟨fx, L, tv, env, td, .ok d, env1, c0, hm, fun v H1 L1 c1 => ?_⟩
        obtain ⟨w1, hw, ow1⟩ := c1.var hx (fun z => nomatch z)
        cases ow1 with
        | @objO p a dx fs cc ns' ds of hL hH hn os =>
          obtain ⟨v', ev, ov⟩ := c1.top hu
          cases ev
          have hil : i < σ.length := (List.getElem?_eq_some_iff.mp hw).1
          have hne : i ≠ (σ ++ tv).length := by rw [List.length_append]; omega
          have hlf : fs.length = ns.length := by have := congrArg List.length hn; simpa using this
          have hft := G.θ.lt _ _ hf
          refine ⟨_, hw, a, G.θ.cA c', dx, fs, rfl, hH, by rw [hK]; exact of.cf.cls, by rw [hK]; exact of.cf.no f hf, by rw [hlf]; exact hlt, ?_⟩
          have gL : ∀ j, movB (σ ++ tv).length [i, j] (L1 a) = .at [i] := fun j => by
            rw [hL]
            refine movB_out hne fun z => ?_
            obtain ⟨t, e⟩ := z
            exact absurd (List.cons.inj e).2 (by simp)
          unfold putD at k
          cases q : ns.idxOf? f with
          | some j =>
            rw [q] at k
            obtain ⟨h3, h4⟩ := putF_old (θ := G.θ) (v := v) hft hn (fun y hy => G.θ.lt _ _ (of.ns y hy)) q
            refine k σ _ _ (c1.node (j := j) (d' := .obj true c' ns (xs.set j d)) hw hL ?_)
            refine .objO of (gL j) upd_same h3 ?_
            rw [h4]
            refine Owns.all_of (by simp [os.length]) fun r w e h1 h2 => ?_
            by_cases hr : r = j
            · subst hr
              have hlt2 : r < xs.length := by have := (List.getElem?_eq_some_iff.mp h2).1; simpa using this
              rw [List.getElem?_set_self (by rw [os.length]; exact hlt2)] at h1
              rw [List.getElem?_set_self hlt2] at h2
              cases h1; cases h2
              rw [Nat.zero_add]
              exact ov.under hL hne
            · rw [List.getElem?_set_ne (Ne.symm hr)] at h1 h2
              exact (os.at h1 h2).child hL (by omega) hne
          | none =>
            rw [q] at k
            have hnew := putF_new (f := G.θ.nm f) (v := v) (fs := fs) fun y hy => by
              rw [hn] at hy
              obtain ⟨g, hg, rfl⟩ := List.mem_map.mp hy
              exact fun z => idxOf?_none q (by rw [← G.θ.inj g f (G.θ.lt _ _ (of.ns g hg)) hft z]; exact hg)
            refine k σ _ _ (c1.node (j := xs.length) (d' := .obj true c' (ns ++ [f]) (xs ++ [d])) hw hL ?_)
            refine .objO ⟨of.cf, fun g hg => ?_⟩ (gL _) upd_same (by rw [hnew]; simp [hn]) ?_
            · rcases List.mem_append.mp hg with z | z
              · exact of.ns g z
              · rw [List.mem_singleton.mp z]; exact hf
            · rw [hnew, List.map_append]
              have hol : (fs.map (·.2)).length = xs.length := os.length
              refine Owns.all_of (by simpa using hol) fun r w e h1 h2 => ?_
              rcases Nat.lt_trichotomy r xs.length with hq | hq | hq
              · rw [List.getElem?_append_left (by rw [hol]; exact hq)] at h1
                rw [List.getElem?_append_left hq] at h2
                exact (os.at h1 h2).child hL (by omega) hne
              · subst hq
                rw [List.getElem?_append_right (by rw [hol]; exact Nat.le_refl _), hol, Nat.sub_self] at h1
                rw [List.getElem?_append_right (Nat.le_refl _), Nat.sub_self] at h2
                cases h1; cases h2
                rw [Nat.zero_add]
                exact ov.under hL hne
              · rw [List.getElem?_eq_none (by simp; omega)] at h2
                cases h2
      · cases e1
    · cases e1
  · rename_i x env1 hm
    cases e1
    exact ⟨fx, L, tv, env, td, .error x, _, c0, hm, fun cls dd H' L' ex c' => k cls dd σ H' L' ex c'⟩
  · cases e1
end

/-! ### isinstance -/
inductive Cl where
  | ty (n : String)
  | own (c : Nat)
def tyD : D → Option String
  | .non => some "NoneType"
  | .bl _ => some "bool"
  | .int _ => some "int"
  | .str _ => some "str"
  | .tup _ => some "tuple"
  | .lst _ _ => some "list"
  | .scr _ => some "list"
  | .dic _ _ _ => some "dict"
  | _ => none
def isBuiltin (a b : String) : Bool := a == b || (a == "bool" && b == "int")
/-- facts of the written part: no built-in value is of an own class; which own classes are told apart -/
structure IsF (θ : Th) (c : Nat) (cs : List Nat) : Prop where
  ty : ∀ a ∈ (["NoneType", "bool", "int", "str", "tuple", "list", "dict"] : List String), PySem.W.kitOne θ.K (.type a) (.ref (θ.cA c)) = some false
  own : ∀ c' ∈ cs, PySem.W.kitOne θ.K (.ref (θ.cA c')) (.ref (θ.cA c)) = some (c' == c)
structure TyF (θ : Th) (c : Nat) : Prop where
  ha : PySem.W.findIn θ.K (.ref (θ.cA c)) "__class__" = some (some (.builtin "object.__class__"))
  hn : PySem.W.specialIn θ.K (.builtin "object.__class__") "__get__" = some (some (.builtin "getset_descriptor.__get__"))
  htk : PySem.W.takesIn θ.K (.builtin "object.__class__") = some true
  hm : PySem.W.mroIn θ.K (θ.cA c) (.type "object") = some true
/-- isinstance(x, T), T a built-in class (bool, int, str, list, tuple) -/
def isTyD (T : String) (d : D) : Option D := match tyD d with | some a => (match kitB a T with | some b => some (.bl b) | none => none) | none => none
def isOwnD (c : Nat) (cs : List Nat) : D → Option D
  | .obj _ c' _ _ => if cs.contains c' then some (.bl (c' == c)) else none
  | d => match tyD d with | some _ => some (.bl false) | none => none
section
variable {θ : Th} {L : LM} {H : Hp}
theorem own_ty {π : Option (List Nat)} {v : V} {d : D} {a : String} (o : Own θ L H π v d) (h : tyD d = some a) : TyX θ.K H v (.type a) := by
  cases o with
  | unk => cases h
  | non => cases h; exact .base .non
  | bl => cases h; exact .base (.bl _)
  | int => cases h; exact .base (.int _)
  | str => cases h; exact .base (.str _)
  | tup e r _ => cases h; exact .base (.tup r)
  | lstF e r _ => cases h; exact .base (.lst r)
  | lstO e r _ => cases h; exact .base (.lst r)
  | objF => cases h
  | objO => cases h
  | dicF e r _ _ => cases h; exact .base (.dK r)
  | dicO e r _ _ => cases h; exact .base (.dK r)
  | tupK h1 h2 h3 h4 h5 _ => cases h; exact .kTuple h1 h2
  | scr e r _ =>
    cases h
    rcases r with r | ⟨o, r⟩
    · exact .base (.lst r)
    · exact .base (.frz r)
  | scrK h1 h2 h3 h4 h5 h6 _ => cases h; exact .kList h1 h2
theorem tyD_mem {d : D} {a : String} (h : tyD d = some a) : a ∈ (["NoneType", "bool", "int", "str", "tuple", "list", "dict"] : List String) := by
  cases d <;> first | (cases h; simp) | cases h
end
section
variable {X : Cx} {G : Gc} {θ : Th} {io : List Nat} {c : Nat} {pos pf : Pos} {e eT : Expr} {p : P}
/-- the second argument is a class as a value -/
def pUn (f : D → Option D) (p : P) : P := fun env => match p env with | some d => f d | none => none
theorem xp_isT {T : String} (hK : X.K = θ.K) (hg : Gl X "isinstance") (hm : X.mg "isinstance" = none) (he : PE X e (rdP θ io p)) (hT : PE X eT (tC (.ty T)))
    (h1 : starEach [e, eT] X.env = (false, eval e X.env) :: starEach [eT] X.env := by rfl) (h2 : starEach [eT] X.env = (false, eval eT X.env) :: starEach [] X.env := by rfl) (hpl : (backTo pos (starEach [eT] X.env)).any (·.1) = false := by rfl) :
    PE X (.Call (.Name "isinstance" pf) [e, eT] [] pos) (rdP θ io (pUn (isTyD T) p)) :=
  pe_weak (pe_callB call_isi hg hm (by decide +kernel) (pa_cons he (pa_cons hT pa_nil h2) h1) (by decide) (by decide) h1 hpl) fun σ H Q ⟨fx, L, tv, env, td, d, c0, e1, k⟩ => by
    show rdP θ io p σ H fun x H1 => rIsi X.K [x, .ty T] H1 Q
    unfold pUn at e1
    split at e1
    · rename_i d0 hp
      refine ⟨fx, L, tv, env, td, d0, c0, hp, fun v H1 L1 π x1 o1 => ?_⟩
      unfold isTyD at e1
      split at e1
      · rename_i a ha
        split at e1
        · rename_i b hb
          cases e1
          exact ⟨v, .ty T, .type a, .type T, b, rfl, .ty T, by rw [hK]; exact own_ty o1 ha, kit_ty hb, k _ H1 L1 none x1 .bl⟩
        · cases e1
      · cases e1
    · cases e1
theorem xp_isO {cs : List Nat} (hK : X.K = θ.K) (hg : Gl X "isinstance") (hm : X.mg "isinstance" = none) (iF : IsF θ c cs) (tF : ∀ c' ∈ cs, TyF θ c') (he : PE X e (rdP θ io p)) (hT : PE X eT (tC (.ref (θ.cA c))))
    (h1 : starEach [e, eT] X.env = (false, eval e X.env) :: starEach [eT] X.env := by rfl) (h2 : starEach [eT] X.env = (false, eval eT X.env) :: starEach [] X.env := by rfl) (hpl : (backTo pos (starEach [eT] X.env)).any (·.1) = false := by rfl) :
    PE X (.Call (.Name "isinstance" pf) [e, eT] [] pos) (rdP θ io (pUn (isOwnD c cs) p)) :=
  pe_weak (pe_callB call_isi hg hm (by decide +kernel) (pa_cons he (pa_cons hT pa_nil h2) h1) (by decide) (by decide) h1 hpl) fun σ H Q ⟨fx, L, tv, env, td, d, c0, e1, k⟩ => by
    show rdP θ io p σ H fun x H1 => rIsi X.K [x, .ref (θ.cA c)] H1 Q
    unfold pUn at e1
    split at e1
    · rename_i d0 hp
      refine ⟨fx, L, tv, env, td, d0, c0, hp, fun v H1 L1 π x1 o1 => ?_⟩
      unfold isOwnD at e1
      split at e1
      · rename_i ob c' ns xs
        split at e1
        · rename_i hc
          cases e1
          have hmem := List.contains_iff_mem.mp hc
          obtain ⟨a, dx, fs, π', rfl, of, hH, hn, os⟩ := o1.objP
          have t := tF c' hmem
          refine ⟨.ref a, .ref (θ.cA c), .ref (θ.cA c'), .ref (θ.cA c), _, rfl, .own _, .base (.ins hH ?_ ?_ ?_ ?_ ?_), ?_, k _ H1 L1 none x1 .bl⟩
          · rw [hK]; exact of.cf.cls
          · rw [hK]; exact t.ha
          · rw [hK]; exact t.hn
          · rw [hK]; exact t.htk
          · rw [hK]; exact t.hm
          · rw [hK]; exact iF.own c' hmem
        · cases e1
      · split at e1
        · rename_i a ha
          cases e1
          exact ⟨v, .ref (θ.cA c), .type a, .ref (θ.cA c), false, rfl, .own _, by rw [hK]; exact own_ty o1 ha, by rw [hK]; exact iF.ty a (tyD_mem ha), k _ H1 L1 none x1 .bl⟩
        · cases e1
    · cases e1
/-- isinstance(x, (T, U)), built-in classes -/
def isTy2D (T U : String) (d : D) : Option D := match tyD d with | some a => (match kitB a T, kitB a U with | some b, some b' => some (.bl (b || b')) | _, _ => none) | none => none
theorem xp_isT2 {T U : String} {pt : Pos} {kt : Nat} {e1' e2' : Expr} (hK : X.K = θ.K) (hg : Gl X "isinstance") (hm : X.mg "isinstance" = none) (he : PE X e (rdP θ io p)) (hT : PE X e1' (tC (.ty T))) (hU : PE X e2' (tC (.ty U)))
    (h0 : starEach [e1', e2'] X.env = (false, eval e1' X.env) :: starEach [e2'] X.env := by rfl) (h00 : starEach [e2'] X.env = (false, eval e2' X.env) :: starEach [] X.env := by rfl)
    (h1 : starEach [e, .Tuple [e1', e2'] kt pt] X.env = (false, eval e X.env) :: starEach [.Tuple [e1', e2'] kt pt] X.env := by rfl) (h2 : starEach [.Tuple [e1', e2'] kt pt] X.env = (false, eval (.Tuple [e1', e2'] kt pt) X.env) :: starEach [] X.env := by rfl) (hpl : (backTo pos (starEach [.Tuple [e1', e2'] kt pt] X.env)).any (·.1) = false := by rfl) :
    PE X (.Call (.Name "isinstance" pf) [e, .Tuple [e1', e2'] kt pt] [] pos) (rdP θ io (pUn (isTy2D T U) p)) :=
  pe_weak (pe_callB call_isiT hg hm (by decide +kernel) (pa_cons he (pa_cons (pe_tup (pa_cons hT (pa_cons hU pa_nil h00) h0)) pa_nil h2) h1) (by decide) (by decide) h1 hpl) fun σ H Q ⟨fx, L, tv, env, td, d, c0, e1, k⟩ => by
    show rdP θ io p σ H fun x H1 => 2 ≤ sizeLine ∧ ∀ q, H1 q = none → rIsiT X.K [x, .ref q] (upd H1 q (.tup [.ty T, .ty U])) Q
    unfold pUn at e1
    split at e1
    · rename_i d0 hp
      refine ⟨fx, L, tv, env, td, d0, c0, hp, fun v H1 L1 π x1 o1 => ⟨by decide, fun q nq => ?_⟩⟩
      unfold isTy2D at e1
      split at e1
      · rename_i a ha
        split at e1
        · rename_i b b' hb hb'
          cases e1
          have ok1 := x1.labOk c0.cr.lab
          have x2 := ext_new (o := .tup [.ty T, .ty U]) ok1 nq
          refine ⟨v, q, [.ty T, .ty U], .type a, [.type T, .type U], b || b', rfl, upd_same, .cons (.ty T) (.cons (.ty U) .nil), by rw [hK]; exact own_ty (o1.ext x2 ok1) ha, ?_, k _ _ _ none (x1.trans x2) .bl⟩
          refine kitAny_cons (kit_ty hb) (fun z => ?_) (fun z => by rw [z]; rfl)
          rw [z]
          exact kitAny_cons (kit_ty hb') (fun z2 => by rw [z2]; exact kitAny_nil) (fun z2 => by rw [z2]; rfl)
        · cases e1
      · cases e1
    · cases e1
end
end Y

/-! The program's classes and attributes, by number. -/
namespace Y
open PySem L2
def nmL : List Str := (["place", "numbers", "index", "what", "limit", "line", "size", "name", "w", "r", "acks", "resend", "group", "k", "j", "rule", "channel", "_pieces", "_state", "_delivered", "states", "steps", "layers", "_rows", "_at", "pieces", "packet", "_stage", "_sum", "_word"] : List Str) ++ (["_number", "_length", "_piece", "_scan", "_fed", "_broken", "_difference", "widths", "rooms", "rows", "inputs", "pairs", "word", "machine", "classes", "_ends", "kind", "rounds", "ticks", "rate", "edges", "talks", "sent", "arrived", "_caller", "_listener", "_used", "_letters", "_opened", "closing"] : List Str) ++ (["first", "second", "arrivals", "_variables", "_slots", "_emitted", "_replies", "number", "instructions", "memory", "stack", "counters", "at", "_codes", "_sender", "_receiver", "_base", "_data", "_acks", "_due", "_steps", "_data_names", "_ack_names", "verdict", "fault", "progress", "_now", "_past", "_future", "_trials"] : List Str)
def nmT (i : Nat) : Str := nmL.getD i ""
def flT : Nat → List Nat
  | 1 => [0]
  | 2 => [0]
  | 3 => [1]
  | 4 => [2]
  | 5 => [3, 4]
  | 6 => [5]
  | 7 => [2]
  | 8 => [2]
  | 9 => [6]
  | 10 => [1]
  | 11 => [0]
  | 12 => [0]
  | 13 => [0]
  | 14 => [0]
  | 15 => [7]
  | 17 => [8, 9, 10, 11, 12]
  | 18 => [13, 14]
  | 19 => [15, 16, 1, 17, 18, 19]
  | 20 => [15, 16, 1]
  | 21 => [20]
  | 22 => [21, 22]
  | 23 => [23, 24]
  | 24 => [15, 16, 1, 25, 21]
  | 25 => [26, 27, 28, 29, 30, 31, 32]
  | 26 => [33, 34, 35]
  | 27 => [36]
  | 28 => [15, 16, 37, 38, 1]
  | 29 => [39, 40]
  | 30 => [41]
  | 31 => [42]
  | 32 => [43, 44]
  | 33 => [15, 16, 21, 45]
  | 34 => [21, 46, 2]
  | 35 => [20]
  | 36 => [21, 47]
  | 37 => [48, 49]
  | 38 => [48]
  | 39 => [50]
  | 40 => [51, 52, 53]
  | 41 => [21, 54, 55, 56, 57, 58]
  | 42 => [39, 59]
  | 43 => [47, 60, 61]
  | 46 => [62]
  | 47 => [63, 64, 65, 66, 67, 32]
  | 48 => [68]
  | 49 => [69, 70, 71, 72]
  | 50 => [15, 16, 1, 17, 73, 74, 75, 76, 19, 77, 78]
  | 51 => [13, 14, 21]
  | 52 => [2]
  | 53 => [21, 45, 79]
  | 54 => [16, 45, 80, 81, 82]
  | 55 => [83, 84, 85]
  | 56 => [86, 87, 88, 89]
  | _ => []
def topT : Nat := 90
theorem nm_nodup : nmL.Nodup := by decide +kernel
theorem nm_len : nmL.length = topT := by decide +kernel
theorem nm_inj : ∀ i j, i < topT → j < topT → nmT i = nmT j → i = j := fun i j hi hj h => by
  have e1 : nmT i = nmL[i]'(by rw [nm_len]; exact hi) := by
    unfold nmT
    rw [List.getD_eq_getElem?_getD, List.getElem?_eq_getElem (by rw [nm_len]; exact hi)]
    rfl
  have e2 : nmT j = nmL[j]'(by rw [nm_len]; exact hj) := by
    unfold nmT
    rw [List.getD_eq_getElem?_getD, List.getElem?_eq_getElem (by rw [nm_len]; exact hj)]
    rfl
  rw [e1, e2] at h
  exact (List.getElem_inj nm_nodup).mp h
theorem fl_small : ∀ c, c < 57 → ∀ f ∈ flT c, f < topT := by decide +kernel
theorem fl_lt : ∀ c f, f ∈ flT c → f < topT := fun c f h => by
  by_cases hc : c < 57
  · exact fl_small c hc f h
  · have : flT c = [] := by
      unfold flT
      split <;> first | rfl | omega
    rw [this] at h
    cases h
end Y

namespace Y
open PySem L2 PySem.Spec PyProof.Rows ClX

/-! ### a name as a value: as it is when frozen, else it is frozen -/
def mVal (i : Nat) : M := fun env => match env[i]? with
  | some d => if d.frz then some (.ok d, env) else (match d with | .unk => none | d => some (.ok d.fr, env.set i d.fr))
  | none => none
section
variable {X : Cx} {G : Gc} {e : Expr}
theorem xm_val (i : Nat) (h : PE X e (tVar i)) : PE X e (rdM G (mVal i)) := by
  refine pe_weak h fun σ H Q ⟨fx, L, tv, env, td, r, env', c, e1, k⟩ => ?_
  unfold mVal at e1
  split at e1
  · rename_i d hd
    split at e1
    · rename_i hz
      cases e1
      obtain ⟨v, h1, o⟩ := c.var hd (by intro z; subst z; cases hz)
      exact ⟨v, h1, k v H L (c.push ((o.frozen hz).any _))⟩
    · have hu : d ≠ .unk ∧ some (Except.ok d.fr, env.set i d.fr) = some (r, env') := by
        cases d <;> first | (cases e1; exact ⟨(fun z => nomatch z), rfl⟩) | cases e1
      obtain ⟨hu, e2⟩ := hu
      cases e2
      obtain ⟨v, h1, c2, o⟩ := c.frz hd hu
      exact ⟨v, h1, k v H _ (c2.push (o.any _))⟩
  · cases e1
end

/-- a name's value is frozen first -/
def mFz (i : Nat) (m : M) : M := fun env => match env[i]? with
  | some .unk => none
  | some d => m (if d.frz then env else env.set i d.fr)
  | none => none
theorem xm_fz {X : Cx} {G : Gc} {e : Expr} {m : M} (i : Nat) (h : PE X e (rdM G m)) : PE X e (rdM G (mFz i m)) := by
  refine pe_weak h fun σ H Q ⟨fx, L, tv, env, td, r, env', c, e1, k⟩ => ?_
  unfold mFz at e1
  split at e1
  · cases e1
  · rename_i d hu hd
    by_cases hz : d.frz = true
    · rw [if_pos hz] at e1
      exact ⟨fx, L, tv, env, td, r, env', c, e1, k⟩
    · rw [if_neg hz] at e1
      obtain ⟨v, h1, c2, o⟩ := c.frz hd (fun z => hu z)
      exact ⟨fx, _, tv, _, td, r, env', c2, e1, k⟩
  · cases e1

/-! ### the world in which a law's defs stand -/
structure Wd where
  P : Program
  w : World
  K : PySem.W.Frag
  mg : Str → Option Value
  base : Heap
  /-- where the classes stand, what their makers are; tokens of constants -/
  cA : Nat → Addr
  mc : Nat → Value
  tk : Nat → Tok
abbrev Wd.θ (Γ : Wd) : Th := ⟨Γ.K, Γ.cA, nmT, flT, topT, nm_inj, fl_lt⟩
/-- the name x holds a def with the promise F -/
structure FnAt (Γ : Wd) (x : Str) (k : Nat) (N : Nat) (F : Fn) : Prop where
  ex : ∃ f fd ps, FnOk Γ.P Γ.w Γ.K Γ.mg Γ.base (L2.CX Γ.P Γ.w) k f fd ps (spG Γ.θ [] N F) ∧ Binds Γ.K fd ps [] ∧ PySem.W.keepIn Γ.K (.ref f) = true ∧ Γ.mg x = some (.ref f)
/-- .. called with n values and keywords ks -/
structure FnAtK (Γ : Wd) (x : Str) (k : Nat) (n : Nat) (ks : List Str) (F : Fn) : Prop where
  ex : ∃ f fd ps, FnOk Γ.P Γ.w Γ.K Γ.mg Γ.base (L2.CX Γ.P Γ.w) k f fd ps (spG Γ.θ [] (n + ks.length) F) ∧ KBn Γ.K fd ps n ks (fun us ws => us ++ ws) (fun vs zs => vs ++ zs) ∧ PySem.W.keepIn Γ.K (.ref f) = true ∧ Γ.mg x = some (.ref f)
/-- the name x holds the class c -/
structure MkAt (Γ : Wd) (x : Str) (c : Nat) (k : Nat) (N : Nat) (F : Fn) : Prop where
  ex : ∃ f fd ps, FnOk Γ.P Γ.w Γ.K Γ.mg Γ.base (L2.CX Γ.P Γ.w) k f fd ps (spG Γ.θ [0] N F) ∧ Binds Γ.K fd ps [] ∧ L2.Mk Γ.K (Γ.θ.cA c) f ∧ Γ.mg x = some (.ref (Γ.θ.cA c))
  cf : CF Γ.θ c
structure MeAt (Γ : Wd) (m : Str) (c : Nat) (k : Nat) (N : Nat) (F : Fn) : Prop where
  ex : ∃ f fd ps, FnOk Γ.P Γ.w Γ.K Γ.mg Γ.base (L2.CX Γ.P Γ.w) k f fd ps (spG Γ.θ [] N F) ∧ Binds Γ.K fd ps [] ∧ Meth Γ.K (Γ.θ.cA c) m f
  cf : CF Γ.θ c
  no : ∀ g ∈ Γ.θ.fl c, Γ.θ.nm g ≠ m
/-- where code of the law runs -/
structure In (Γ : Wd) (G : Gc) (X : Cx) (k : Nat) : Prop where
  P : X.prog = Γ.P
  w : X.w = Γ.w
  K : X.K = Γ.K
  mg : X.mg = Γ.mg
  base : X.base = Γ.base
  θ : G.θ = Γ.θ
  hr : Room k X.A
  tk : Takes X G.W
  po : PassesOwn (model X.prog X.w) X.A X.env X.xe
section
variable {Γ : Wd} {X : Cx} {G : Gc} {k j n c N : Nat} {x : Str} {p pos apos : Pos} {e o : Expr} {es : List Expr} {kws : List Keyword} {ks : List Str} {ma mb : MA} {q : P} {F : Fn} {m : Str}
theorem in_hK (I : In Γ G X k) : X.K = G.θ.K := by rw [I.K, I.θ]
theorem yc (I : In Γ G X k) (h : FnAt Γ x j N F) (hj : j ≤ k) (hg : Gl X x) (ha : PA X (e :: es) (rdA G ma)) (hdb : (x == ("__debug__" : Str)) = false := by decide) (he : starEach (e :: es) X.env = (false, eval e X.env) :: starEach es X.env := by rfl) (hpl : (backTo pos (starEach es X.env)).any (·.1) = false := by rfl) :
    PE X (.Call (.Name x p) (e :: es) [] pos) (rdM G (mCall N F ma)) := by
  obtain ⟨f, fd, ps, h1, h2, h3, h4⟩ := h.ex
  obtain ⟨θ, io, W⟩ := G
  obtain ⟨prog, w, K, mg, base, A, N', s0, H0, env, outer, stack, ex, fn, calm, pn, xe⟩ := X
  obtain ⟨e1, e2, e3, e4, e5, e6, hr, tk, po⟩ := I
  simp only at e1 e2 e3 e4 e5 e6
  subst e1 e2 e3 e4 e5 e6
  exact xm_call h1 (hr.mono hj) h4 h3 h2 tk hg ha hdb he hpl
theorem yk (I : In Γ G X k) (h : FnAtK Γ x j n ks F) (hj : j ≤ k) (hg : Gl X x) (ha : PA X (e :: es) (rdA G ma)) (hkw : PK X kws (rdA G mb)) (hall : (backToKw pos (keywordEach kws X.env)).all (·.1.isSome) = true := by rfl) (hks : (backToKw pos (keywordEach kws X.env)).filterMap (·.1) = ks := by rfl)
    (hdb : (x == ("__debug__" : Str)) = false := by decide) (he : starEach (e :: es) X.env = (false, eval e X.env) :: starEach es X.env := by rfl)
    (hpl : ((backTo pos (starEach (e :: es) X.env)).any (·.1) || (backToKw pos (keywordEach kws X.env)).any (·.1.isNone)) = false := by rfl) :
    PE X (.Call (.Name x p) (e :: es) kws pos) (rdM G (mCallK n ks.length F ma mb)) := by
  obtain ⟨f, fd, ps, h1, h2, h3, h4⟩ := h.ex
  obtain ⟨θ, io, W⟩ := G
  obtain ⟨prog, w, K, mg, base, A, N', s0, H0, env, outer, stack, ex, fn, calm, pn, xe⟩ := X
  obtain ⟨e1, e2, e3, e4, e5, e6, hr, tk, po⟩ := I
  simp only at e1 e2 e3 e4 e5 e6
  subst e1 e2 e3 e4 e5 e6
  exact xm_callK h1 (hr.mono hj) h4 h3 h2 rfl tk hg ha hkw hall hks hdb he hpl
theorem ym (I : In Γ G X k) (h : MkAt Γ x c j N F) (hj : j + 1 ≤ k) (hg : Gl X x) (ha : PA X (e :: es) (rdA G ma)) (hdb : (x == ("__debug__" : Str)) = false := by decide) (he : starEach (e :: es) X.env = (false, eval e X.env) :: starEach es X.env := by rfl) (hpl : (backTo pos (starEach es X.env)).any (·.1) = false := by rfl) :
    PE X (.Call (.Name x p) (e :: es) [] pos) (rdM G (mMake c N F ma)) := by
  obtain ⟨f, fd, ps, h1, h2, h3, h4⟩ := h.ex
  have cf := h.cf
  obtain ⟨θ, io, W⟩ := G
  obtain ⟨prog, w, K, mg, base, A, N', s0, H0, env, outer, stack, ex, fn, calm, pn, xe⟩ := X
  obtain ⟨e1, e2, e3, e4, e5, e6, hr, tk, po⟩ := I
  simp only at e1 e2 e3 e4 e5 e6
  subst e1 e2 e3 e4 e5 e6
  exact xm_make cf h3 h1 (hr.mono hj) h4 h2 tk hg ha hdb he hpl
theorem yo0 {pl : Sem Bool} (I : In Γ G X k) (h : MeAt Γ m c j N F) (hj : j ≤ k) (he : PE X o (rdP G.θ G.io q))
    (ht : eval (.Call (.Attribute o m apos) [] [] pos) X.env = (do
      let ov ← eval o X.env
      standAt apos.atName
      let (f, first) ← holding [ov] (getMethod ov m pl)
      callWith pos f first (backTo pos (starEach [] X.env)) (backToKw pos (keywordEach [] X.env))) := by rfl) : PE X (.Call (.Attribute o m apos) [] [] pos) (rdM G (mMeth c N F q aNil)) := by
  obtain ⟨f, fd, ps, h1, h2, h3⟩ := h.ex
  have cf := h.cf
  have no := h.no
  obtain ⟨θ, io, W⟩ := G
  obtain ⟨prog, w, K, mg, base, A, N', s0, H0, env, outer, stack, ex, fn, calm, pn, xe⟩ := X
  obtain ⟨e1, e2, e3, e4, e5, e6, hr, tk, po⟩ := I
  simp only at e1 e2 e3 e4 e5 e6
  subst e1 e2 e3 e4 e5 e6
  exact xm_meth0 rfl cf no h3 h1 (hr.mono hj) h2 tk he ht
abbrev cxG (Γ : Wd) (N : List Str) (qual : Str) (st : Stmt) (f : Addr) (cdv : Value) (A : Around) (outer : List Env) (s : Shared) (H : Hp) (E : XK) : Cx :=
  cxOf (L2.CX Γ.P Γ.w) Γ.P Γ.w Γ.K Γ.mg Γ.base N qual (defScope st) f cdv A outer s H E
/-- the def's own theorem: from its body -/
theorem fn_at {x qual : Str} {st : Stmt} {N ps : List Str} {k : Nat} {b : SM} (F : ∃ f fd, Fun Γ.K x qual st f fd ∧ Γ.mg x = some (.ref f) ∧ Binds Γ.K fd ps []) (S : FnScope N ps (defScope st))
    (hbody : ∀ (f : Addr) (cdv : Value) (A : Around) (outer : List Env) (s : Shared) (H : Hp) (E : XK) (W : WX), In Γ ⟨Γ.θ, [], W⟩ (cxG Γ N qual st f cdv A outer s H E) k → PSs (cxG Γ N qual st f cdv A outer s H E) (defBody st) (rdS ⟨Γ.θ, [], W⟩ b)) : FnAt Γ x (k + 1) ps.length (semG N.length b) := by
  obtain ⟨f, fd, h1, h2, h3⟩ := F
  exact ⟨f, fd, ps, fn_ok h1 S (fun _ h => absurd h (by simp)) fun cdv A outer s H E W hr tk po => hbody f cdv A outer s H E W ⟨rfl, rfl, rfl, rfl, rfl, rfl, hr, tk, po⟩, h3, h1.kp, h2⟩
theorem fn_raw {x qual : Str} {st : Stmt} {N ps : List Str} {k : Nat} {b : SM} {f : Addr} {fd : FuncData} (F : Fun Γ.K x qual st f fd) (S : FnScope N ps (defScope st))
    (hbody : ∀ (f : Addr) (cdv : Value) (A : Around) (outer : List Env) (s : Shared) (H : Hp) (E : XK) (W : WX), In Γ ⟨Γ.θ, [], W⟩ (cxG Γ N qual st f cdv A outer s H E) k → PSs (cxG Γ N qual st f cdv A outer s H E) (defBody st) (rdS ⟨Γ.θ, [], W⟩ b)) : FnOk Γ.P Γ.w Γ.K Γ.mg Γ.base (L2.CX Γ.P Γ.w) (k + 1) f fd ps (spG Γ.θ [] ps.length (semG N.length b)) :=
  fn_ok F S (fun _ h => absurd h (by simp)) fun cdv A outer s H E W hr tk po => hbody f cdv A outer s H E W ⟨rfl, rfl, rfl, rfl, rfl, rfl, hr, tk, po⟩
theorem fn_atK {x qual : Str} {st : Stmt} {N ps : List Str} {k : Nat} {b : SM} (F : ∃ f fd, Fun Γ.K x qual st f fd ∧ Γ.mg x = some (.ref f) ∧ KBn Γ.K fd ps n ks (fun us ws => us ++ ws) (fun vs zs => vs ++ zs)) (S : FnScope N ps (defScope st)) (hn : ps.length = n + ks.length)
    (hbody : ∀ (f : Addr) (cdv : Value) (A : Around) (outer : List Env) (s : Shared) (H : Hp) (E : XK) (W : WX), In Γ ⟨Γ.θ, [], W⟩ (cxG Γ N qual st f cdv A outer s H E) k → PSs (cxG Γ N qual st f cdv A outer s H E) (defBody st) (rdS ⟨Γ.θ, [], W⟩ b)) : FnAtK Γ x (k + 1) n ks (semG N.length b) := by
  obtain ⟨f, fd, h1, h2, h3⟩ := F
  exact ⟨f, fd, ps, by rw [← hn]; exact fn_ok h1 S (fun _ h => absurd h (by simp)) fun cdv A outer s H E W hr tk po => hbody f cdv A outer s H E W ⟨rfl, rfl, rfl, rfl, rfl, rfl, hr, tk, po⟩, h3, h1.kp, h2⟩
theorem mk_at {x qual : Str} {st : Stmt} {N ps : List Str} {k : Nat} {b : SM} (cf : CF Γ.θ c) (F : ∃ f fd, Fun Γ.K "__init__" qual st f fd ∧ L2.Mk Γ.K (Γ.θ.cA c) f ∧ Γ.mg x = some (.ref (Γ.θ.cA c)) ∧ Binds Γ.K fd ps []) (S : FnScope N ps (defScope st)) (h0 : 0 < ps.length)
    (hbody : ∀ (f : Addr) (cdv : Value) (A : Around) (outer : List Env) (s : Shared) (H : Hp) (E : XK) (W : WX), In Γ ⟨Γ.θ, [0], W⟩ (cxG Γ N qual st f cdv A outer s H E) k → PSs (cxG Γ N qual st f cdv A outer s H E) (defBody st) (rdS ⟨Γ.θ, [0], W⟩ b)) : MkAt Γ x c (k + 1) ps.length (semG N.length b) := by
  obtain ⟨f, fd, h1, h2, h3, h4⟩ := F
  exact ⟨⟨f, fd, ps, fn_ok h1 S (fun i h => by rw [List.mem_singleton.mp h]; exact h0) fun cdv A outer s H E W hr tk po => hbody f cdv A outer s H E W ⟨rfl, rfl, rfl, rfl, rfl, rfl, hr, tk, po⟩, h4, h2, h3⟩, cf⟩
theorem me_at {qual : Str} {st : Stmt} {N ps : List Str} {k : Nat} {b : SM} (cf : CF Γ.θ c) (no : ∀ g ∈ Γ.θ.fl c, Γ.θ.nm g ≠ m) (F : ∃ f fd, Fun Γ.K m qual st f fd ∧ Meth Γ.K (Γ.θ.cA c) m f ∧ Binds Γ.K fd ps []) (S : FnScope N ps (defScope st))
    (hbody : ∀ (f : Addr) (cdv : Value) (A : Around) (outer : List Env) (s : Shared) (H : Hp) (E : XK) (W : WX), In Γ ⟨Γ.θ, [], W⟩ (cxG Γ N qual st f cdv A outer s H E) k → PSs (cxG Γ N qual st f cdv A outer s H E) (defBody st) (rdS ⟨Γ.θ, [], W⟩ b)) : MeAt Γ m c (k + 1) ps.length (semG N.length b) := by
  obtain ⟨f, fd, h1, h2, h3⟩ := F
  exact ⟨⟨f, fd, ps, fn_ok h1 S (fun _ h => absurd h (by simp)) fun cdv A outer s H E W hr tk po => hbody f cdv A outer s H E W ⟨rfl, rfl, rfl, rfl, rfl, rfl, hr, tk, po⟩, h3, h2⟩, cf, no⟩
end
/-- nothing is promised -/
theorem fn_none {Γ : Wd} {x qual : Str} {st : Stmt} {ps : List Str} {N : Nat} (F : ∃ f fd, Fun Γ.K x qual st f fd ∧ Γ.mg x = some (.ref f) ∧ Binds Γ.K fd ps []) (hN : ps.length = N) : FnAt Γ x 0 N fun _ => none := by
  obtain ⟨f, fd, h1, h2, h3⟩ := F
  refine ⟨f, fd, ps, ⟨fun vs H Q E h => ?_, fun A outer s H args us vs Q E hr he hb hv h => ?_⟩, h3, h1.kp, h2⟩
  · obtain ⟨L, ds, r, ds', e, _⟩ := h
    rw [e, hN]
  · obtain ⟨L, ds, r, ds', _, _, _, _, z, _⟩ := h
    cases z
theorem bt_len : bootBuiltins "len" = some (.builtin "len") := by decide +kernel
theorem bt_abs : bootBuiltins "abs" = some (.builtin "abs") := by decide +kernel
theorem bt_max : bootBuiltins "max" = some (.builtin "max") := by decide +kernel
theorem bt_min : bootBuiltins "min" = some (.builtin "min") := by decide +kernel
theorem bt_int : bootBuiltins "int" = some (.type "int") := by decide +kernel
theorem bt_str : bootBuiltins "str" = some (.type "str") := by decide +kernel
theorem bt_bool : bootBuiltins "bool" = some (.type "bool") := by decide +kernel
theorem bt_list : bootBuiltins "list" = some (.type "list") := by decide +kernel
theorem bt_tuple : bootBuiltins "tuple" = some (.type "tuple") := by decide +kernel
end Y

namespace Y
open PySem L2 PySem.Spec PyProof.Rows ClX
/-! ### evaluating data functions -/
section
variable {env e1 : List D} {d : D} {b : Bool} {x y : D} {p q : P} {m m' : M} {a : MA} {t u : MT} {s s' : SM} {i n : Nat} {r : R}
@[simp] theorem z_pC : pC d env = some d := rfl
@[simp] theorem z_frz_int {k : Int} : D.frz (.int k) = true := rfl
@[simp] theorem z_frz_bl : D.frz (.bl b) = true := rfl
@[simp] theorem z_frz_non : D.frz .non = true := rfl
@[simp] theorem z_frz_str {k : Str} : D.frz (.str k) = true := rfl
@[simp] theorem z_frz_tup {k : List D} : D.frz (.tup k) = D.frzs k := rfl
@[simp] theorem z_frz_scr {k : List D} : D.frz (.scr k) = D.frzs k := rfl
@[simp] theorem z_frz_lst {o : Bool} {k : List D} : D.frz (.lst o k) = (!o && D.frzs k) := rfl
@[simp] theorem z_frz_obj {o : Bool} {c : Nat} {ns : List Nat} {k : List D} : D.frz (.obj o c ns k) = (!o && D.frzs k) := rfl
@[simp] theorem z_frzs_nil : D.frzs [] = true := rfl
@[simp] theorem z_frzs_cons {k : List D} : D.frzs (d :: k) = (D.frz d && D.frzs k) := rfl
@[simp] theorem z_fr_int {k : Int} : D.fr (.int k) = .int k := rfl
@[simp] theorem z_fr_bl : D.fr (.bl b) = .bl b := rfl
@[simp] theorem z_fr_non : D.fr .non = .non := rfl
@[simp] theorem z_fr_str {k : Str} : D.fr (.str k) = .str k := rfl
@[simp] theorem z_fr_tup {k : List D} : D.fr (.tup k) = .tup (D.frs k) := rfl
@[simp] theorem z_fr_scr {k : List D} : D.fr (.scr k) = .scr (D.frs k) := rfl
@[simp] theorem z_fr_lst {o : Bool} {k : List D} : D.fr (.lst o k) = .lst false (D.frs k) := rfl
@[simp] theorem z_fr_obj {o : Bool} {c : Nat} {ns : List Nat} {k : List D} : D.fr (.obj o c ns k) = .obj false c ns (D.frs k) := rfl
@[simp] theorem z_frs_nil : D.frs [] = [] := rfl
@[simp] theorem z_frs_cons {k : List D} : D.frs (d :: k) = D.fr d :: D.frs k := rfl
@[simp] theorem z_nu_nil : noUnk [] = true := rfl
@[simp] theorem z_nu_int {k : Int} {l : List D} : noUnk (.int k :: l) = noUnk l := rfl
@[simp] theorem z_nu_str {k : Str} {l : List D} : noUnk (.str k :: l) = noUnk l := rfl
@[simp] theorem z_nu_bl {l : List D} : noUnk (.bl b :: l) = noUnk l := rfl
@[simp] theorem z_nu_non {l : List D} : noUnk (.non :: l) = noUnk l := rfl
@[simp] theorem z_nu_tup {k l : List D} : noUnk (.tup k :: l) = noUnk l := rfl
@[simp] theorem z_nu_scr {k l : List D} : noUnk (.scr k :: l) = noUnk l := rfl
@[simp] theorem z_nu_lst {o : Bool} {k l : List D} : noUnk (.lst o k :: l) = noUnk l := rfl
@[simp] theorem z_nu_obj {o : Bool} {c : Nat} {ns : List Nat} {k l : List D} : noUnk (.obj o c ns k :: l) = noUnk l := rfl
@[simp] theorem z_lenOk {n : Nat} (h : n ≤ 1000) : lenOk n = true := decide_eq_true (Nat.le_trans h (by decide))
end
/-! generated -/
@[simp] theorem z_pVar (i : Nat) (env : List D) : pVar i env = (match env[i]? with | some .unk => none | some d => some d | none => none) := rfl
@[simp] theorem z_pBin (f : D → D → Option D) (a b : P) (env : List D) : pBin f a b env = (match a env with | some x => (match b env with | some y => (match f x y with | some z => if z.frz then some z else none | none => none) | none => none) | none => none) := rfl
@[simp] theorem z_mP (p : P) (env : List D) : mP p env = (match p env with | some d => if d.frz then some (.ok d, env) else none | none => none) := rfl
@[simp] theorem z_mTake (i : Nat) (env : List D) : mTake i env = (match env[i]? with | some .unk => none | some d => some (.ok d, env.set i .unk) | none => none) := rfl
@[simp] theorem z_aNil (env : List D) : aNil  env = (some (.ok [], env)) := rfl
@[simp] theorem z_aCons (m : M) (r : MA) (env : List D) : aCons m r env = (match m env with
  | some (.ok d, env1) => (match r env1 with | some (.ok ds, env2) => some (.ok (d :: ds), env2) | some (.error x, env2) => some (.error x, env2) | none => none)
  | some (.error x, env1) => some (.error x, env1)
  | none => none) := rfl
@[simp] theorem z_mBin (f : D → D → Option D) (a b : M) (env : List D) : mBin f a b env = (match a env with
  | some (.ok x, env1) => (match b env1 with
    | some (.ok y, env2) => (match f x y with | some z => some (.ok z, env2) | none => none)
    | some (.error x, env2) => some (.error x, env2)
    | none => none)
  | some (.error x, env1) => some (.error x, env1)
  | none => none) := rfl
@[simp] theorem z_tM (m : M) (env : List D) : tM m env = (match m env with
  | some (.ok (.bl b), env') => some (.ok b, env')
  | some (.error x, env') => some (.error x, env')
  | _ => none) := rfl
@[simp] theorem z_tAndM (t u : MT) (env : List D) : tAndM t u env = (match t env with
  | some (.ok true, env1) => u env1
  | some (.ok false, env1) => some (.ok false, env1)
  | some (.error x, env1) => some (.error x, env1)
  | none => none) := rfl
@[simp] theorem z_tOrM (t u : MT) (env : List D) : tOrM t u env = (match t env with
  | some (.ok true, env1) => some (.ok true, env1)
  | some (.ok false, env1) => u env1
  | some (.error x, env1) => some (.error x, env1)
  | none => none) := rfl
@[simp] theorem z_tNotM (t : MT) (env : List D) : tNotM t env = (match t env with
  | some (.ok b, env1) => some (.ok (!b), env1)
  | some (.error x, env1) => some (.error x, env1)
  | none => none) := rfl
@[simp] theorem z_mAndV (a b : M) (env : List D) : mAndV a b env = (match a env with
  | some (.ok (.bl true), env1) => b env1
  | some (.ok (.bl false), env1) => some (.ok (.bl false), env1)
  | some (.error x, env1) => some (.error x, env1)
  | _ => none) := rfl
@[simp] theorem z_mOrV (a b : M) (env : List D) : mOrV a b env = (match a env with
  | some (.ok (.bl true), env1) => some (.ok (.bl true), env1)
  | some (.ok (.bl false), env1) => b env1
  | some (.error x, env1) => some (.error x, env1)
  | _ => none) := rfl
@[simp] theorem z_mNotV (a : M) (env : List D) : mNotV a env = (match a env with
  | some (.ok (.bl b), env1) => some (.ok (.bl (!b)), env1)
  | some (.error x, env1) => some (.error x, env1)
  | _ => none) := rfl
@[simp] theorem z_mIf (t : MT) (a b : M) (env : List D) : mIf t a b env = (match t env with
  | some (.ok true, env1) => a env1
  | some (.ok false, env1) => b env1
  | some (.error x, env1) => some (.error x, env1)
  | none => none) := rfl
@[simp] theorem z_sNext (env : List D) : sNext  env = (some (.next, env)) := rfl
@[simp] theorem z_sSeq (s t : SM) (env : List D) : sSeq s t env = (match s env with
  | some (.next, env1) => t env1
  | r => r) := rfl
@[simp] theorem z_sRet (m : M) (env : List D) : sRet m env = (match m env with
  | some (.ok d, env1) => some (.ret d, env1)
  | some (.error x, env1) => some (.exc x, env1)
  | none => none) := rfl
@[simp] theorem z_sDrop (m : M) (env : List D) : sDrop m env = (match m env with
  | some (.ok _, env1) => some (.next, env1)
  | some (.error x, env1) => some (.exc x, env1)
  | none => none) := rfl
@[simp] theorem z_sSet (i : Nat) (m : M) (env : List D) : sSet i m env = (match m env with
  | some (.ok d, env1) => if i < env1.length then some (.next, env1.set i d) else none
  | some (.error x, env1) => some (.exc x, env1)
  | none => none) := rfl
@[simp] theorem z_sIf (t : MT) (s u : SM) (env : List D) : sIf t s u env = (match t env with
  | some (.ok true, env1) => s env1
  | some (.ok false, env1) => u env1
  | some (.error x, env1) => some (.exc x, env1)
  | none => none) := rfl
@[simp] theorem z_sNever (env : List D) : sNever  env = (none) := rfl
@[simp] theorem z_sBrk (env : List D) : sBrk  env = (some (.brk, env)) := rfl
@[simp] theorem z_sCont (env : List D) : sCont  env = (some (.cont, env)) := rfl
@[simp] theorem z_sRetN (env : List D) : sRetN  env = (some (.ret .non, env)) := rfl
@[simp] theorem z_plNil (env : List D) : plNil  env = (some []) := rfl
@[simp] theorem z_plCons (p : P) (r : PL) (env : List D) : plCons p r env = (match p env with | some d => (match r env with | some ds => some (d :: ds) | none => none) | none => none) := rfl
@[simp] theorem z_pB (f : List D → Option D) (p : PL) (env : List D) : pB f p env = (match p env with | some ds => (match f ds with | some d => if d.frz then some d else none | none => none) | none => none) := rfl
@[simp] theorem z_mB (f : List D → Option D) (a : MA) (env : List D) : mB f a env = (match a env with
  | some (.ok ds, env1) => if noUnk ds then (match f (D.frs ds) with | some d => some (.ok d, env1) | none => none) else none
  | some (.error x, env1) => some (.error x, env1)
  | none => none) := rfl
@[simp] theorem z_pTup (p : PL) (env : List D) : pTup p env = (match p env with | some ds => if D.frzs ds && lenOk ds.length then some (.tup ds) else none | none => none) := rfl
@[simp] theorem z_mTup (a : MA) (env : List D) : mTup a env = (match a env with
  | some (.ok ds, env1) => if noUnk ds && lenOk ds.length then some (.ok (.tup (D.frs ds)), env1) else none
  | some (.error x, env1) => some (.error x, env1)
  | none => none) := rfl
@[simp] theorem z_mLst (a : MA) (env : List D) : mLst a env = (match a env with
  | some (.ok ds, env1) => if noUnk ds && lenOk ds.length then some (.ok (.lst true (D.frs ds)), env1) else none
  | some (.error x, env1) => some (.error x, env1)
  | none => none) := rfl
@[simp] theorem z_pLst (p : PL) (env : List D) : pLst p env = (match p env with | some ds => if D.frzs ds && lenOk ds.length then some (.lst false ds) else none | none => none) := rfl
@[simp] theorem z_pIx (a b : P) (env : List D) : pIx a b env = (match a env with | some x => (match b env with | some y => ixD x y | none => none) | none => none) := rfl
@[simp] theorem z_pFld (p : P) (f : Nat) (env : List D) : pFld p f env = (match p env with | some d => fldD f d | none => none) := rfl
@[simp] theorem z_gN (i : Nat) (d : D) (env : List D) : gN i d env = (if i < env.length then some (env.set i d) else none) := rfl
@[simp] theorem z_gT (ts : List TgM) (d : D) (env : List D) : gT ts d env = (match d with | .tup ds => if ts.length = ds.length then bindAll ts ds env else none | _ => none) := rfl
@[simp] theorem z_sAsg (t : TgM) (m : M) (env : List D) : sAsg t m env = (match m env with
  | some (.ok d, env1) => (match t d env1 with | some env2 => some (.next, env2) | none => none)
  | some (.error x, env1) => some (.exc x, env1)
  | none => none) := rfl
@[simp] theorem z_sForR1 (a : MA) (t : TgM) (b : SM) (env : List D) : sForR1 a t b env = (match a env with
  | some (.ok [.int j], env1) => if rngOk j then loopL t b (rngD 0 j) env1 else none
  | some (.error x, env1) => some (.exc x, env1)
  | _ => none) := rfl
@[simp] theorem z_sForR2 (a : MA) (t : TgM) (b : SM) (env : List D) : sForR2 a t b env = (match a env with
  | some (.ok [.int i, .int j], env1) => if rngOk i && rngOk j then loopL t b (rngD i j) env1 else none
  | some (.error x, env1) => some (.exc x, env1)
  | _ => none) := rfl
@[simp] theorem z_mMake (c : Nat) (N : Nat) (F : Fn) (a : MA) (env : List D) : mMake c N F a env = (match a env with
  | some (.ok ds, env1) => if noUnk ds && decide (ds.length + 1 = N) then (match F (.obj true c [] [] :: D.frs ds) with
    | some (.ok .non, d :: _) => (match d with | .unk => none | d => some (.ok d, env1))
    | some (.error x, _) => some (.error x, env1)
    | _ => none) else none
  | some (.error x, env1) => some (.error x, env1)
  | none => none) := rfl
@[simp] theorem z_pChain (f g : D → D → Option D) (a b c : P) (env : List D) : pChain f g a b c env = (match a env with
  | some x => (match b env with
    | some y => (match f x y with
      | some (.bl true) => (match c env with | some z => (match g y z with | some d => if d.frz then some d else none | none => none) | none => none)
      | some (.bl false) => some (.bl false)
      | _ => none)
    | none => none)
  | none => none) := rfl
@[simp] theorem z_pNeg (a : P) (env : List D) : pNeg a env = (match a env with | some (.int i) => some (.int (-i)) | _ => none) := rfl
@[simp] theorem z_pMS (f : D → List D → Option D) (p : P) (a : PL) (env : List D) : pMS f p a env = (match p env with
  | some (.str s) => (match a env with | some ds => (match f (.str s) ds with | some d => if d.frz then some d else none | none => none) | none => none)
  | _ => none) := rfl
@[simp] theorem z_oNone (env : List D) : oNone  env = (some none) := rfl
@[simp] theorem z_oSome (p : P) (env : List D) : oSome p env = (match p env with | some (.int i) => some (some i) | _ => none) := rfl
@[simp] theorem z_mApp (i : Nat) (m : M) (env : List D) : mApp i m env = (match env[i]? with
  | some (.lst true _) => (match m env with
    | some (.ok d, env1) => (match env1[i]? with
      | some (.lst true xs) => if decide (xs.length < sizeLine) then (match d with | .unk => none | d => some (.ok .non, env1.set i (.lst true (xs ++ [d])))) else none
      | _ => none)
    | some (.error x, env1) => some (.error x, env1)
    | none => none)
  | _ => none) := rfl
@[simp] theorem z_sFldS (c : Nat) (i f : Nat) (m : M) (env : List D) : sFldS c i f m env = (match m env with
  | some (.ok d, env1) => (match env1[i]? with
    | some (.obj true c' ns xs) => if decide (c' = c) && decide (ns.length < 1000) then (match d with | .unk => none | d => some (.next, env1.set i (.obj true c (putD f d ns xs).1 (putD f d ns xs).2))) else none
    | _ => none)
  | some (.error x, env1) => some (.exc x, env1)
  | none => none) := rfl
@[simp] theorem z_pUn (f : D → Option D) (p : P) (env : List D) : pUn f p env = (match p env with | some d => f d | none => none) := rfl
@[simp] theorem z_mVal (i : Nat) (env : List D) : mVal i env = (match env[i]? with
  | some d => if d.frz then some (.ok d, env) else (match d with | .unk => none | d => some (.ok d.fr, env.set i d.fr))
  | none => none) := rfl
@[simp] theorem z_mFz (i : Nat) (m : M) (env : List D) : mFz i m env = (match env[i]? with
  | some .unk => none
  | some d => m (if d.frz then env else env.set i d.fr)
  | none => none) := rfl

section
variable {i j k : Int} {s t : Str} {xs ys : List D} {o b c : Bool} {ns : List Nat} {n f : Nat}
@[simp] theorem z_add : addD (.int i) (.int j) = some (.int (i + j)) := rfl
@[simp] theorem z_adds : addD (.str s) (.str t) = (if lenOk (s.length + t.length) then some (.str (s ++ t)) else none) := rfl
@[simp] theorem z_sub : subD (.int i) (.int j) = some (.int (i - j)) := rfl
@[simp] theorem z_mul : mulD (.int i) (.int j) = (if mulOk i j then some (.int (i * j)) else none) := rfl
@[simp] theorem z_div : divD (.int i) (.int j) = (if divOk j then some (.int (i / j)) else none) := rfl
@[simp] theorem z_mod : modD (.int i) (.int j) = (if decide (0 < j) then some (.int (i % j)) else none) := rfl
@[simp] theorem z_pow : powD (.int i) (.int j) = (if powOk i j then some (.int (i ^ j.toNat)) else none) := rfl
@[simp] theorem z_lt : ltD (.int i) (.int j) = some (.bl (decide (i < j))) := rfl
@[simp] theorem z_le : leD (.int i) (.int j) = some (.bl (decide (i ≤ j))) := rfl
@[simp] theorem z_gt : gtD (.int i) (.int j) = some (.bl (decide (j < i))) := rfl
@[simp] theorem z_ge : geD (.int i) (.int j) = some (.bl (decide (j ≤ i))) := rfl
@[simp] theorem z_eqi : eqD (.int i) (.int j) = some (.bl (decide (i = j))) := rfl
@[simp] theorem z_eqs : eqD (.str s) (.str t) = some (.bl (decide (s = t))) := rfl
@[simp] theorem z_eqb : eqD (.bl b) (.bl c) = some (.bl (decide (b = c))) := rfl
@[simp] theorem z_nei : neD (.int i) (.int j) = some (.bl (!decide (i = j))) := rfl
@[simp] theorem z_nes : neD (.str s) (.str t) = some (.bl (!decide (s = t))) := rfl
@[simp] theorem z_neb : neD (.bl b) (.bl c) = some (.bl (!decide (b = c))) := rfl
@[simp] theorem z_eqVs : eqV (.str s) (.str t) = decide (s = t) := by rw [Bool.eq_iff_iff]; simp [eqV]
@[simp] theorem z_isN : isND .non .non = some (.bl true) := rfl
@[simp] theorem z_isNi : isND (.int i) .non = some (.bl false) := rfl
@[simp] theorem z_isNs : isND (.str s) .non = some (.bl false) := rfl
@[simp] theorem z_isNb : isND (.bl b) .non = some (.bl false) := rfl
@[simp] theorem z_isNt : isND (.tup xs) .non = some (.bl false) := rfl
@[simp] theorem z_isNl : isND (.lst o xs) .non = some (.bl false) := rfl
@[simp] theorem z_isNo : isND (.obj o n ns xs) .non = some (.bl false) := rfl
@[simp] theorem z_lens : lenD [.str s] = (if lenOk s.length then some (.int s.length) else none) := rfl
@[simp] theorem z_lenl : lenD [.lst o xs] = some (.int xs.length) := rfl
@[simp] theorem z_lent : lenD [.tup xs] = some (.int xs.length) := rfl
@[simp] theorem z_lenc : lenD [.scr xs] = some (.int xs.length) := rfl
@[simp] theorem z_int : intD [.int i] = some (.int i) := rfl
@[simp] theorem z_abs : absD [.int i] = some (.int (if i < 0 then -i else i)) := rfl
@[simp] theorem z_max : maxD [.int i, .int j] = some (.int (if j > i then j else i)) := rfl
@[simp] theorem z_min : minD [.int i, .int j] = some (.int (if j < i then j else i)) := rfl
@[simp] theorem z_min3 : minD [.int i, .int j, .int k] = some (.int (if k < (if j < i then j else i) then k else if j < i then j else i)) := rfl
@[simp] theorem z_ixl : ixD (.lst o xs) (.int i) = atI xs i := rfl
@[simp] theorem z_ixt : ixD (.tup xs) (.int i) = atI xs i := rfl
@[simp] theorem z_ixc : ixD (.scr xs) (.int i) = atI xs i := rfl
@[simp] theorem z_fld {g : Nat} {d : D} : fldD f (.obj o n (g :: ns) (d :: xs)) = if g = f then some d else fldD f (.obj o n ns xs) := by
  unfold fldD
  simp only [List.idxOf?_cons]
  by_cases h : g = f
  · subst h; simp
  · rw [if_neg (by simpa using h), if_neg h]
    cases ns.idxOf? f <;> simp
@[simp] theorem z_ba0 {env : List D} : bindAll [] [] env = some env := rfl
@[simp] theorem z_ba1 {env : List D} {t : TgM} {ts : List TgM} {d : D} : bindAll (t :: ts) (d :: xs) env = (match t d env with | some env1 => bindAll ts xs env1 | none => none) := rfl
@[simp] theorem z_tyi {T : String} : isTyD T (.int i) = (match kitB "int" T with | some b => some (.bl b) | none => none) := rfl
@[simp] theorem z_tyb {T : String} : isTyD T (.bl b) = (match kitB "bool" T with | some b => some (.bl b) | none => none) := rfl
@[simp] theorem z_tys {T : String} : isTyD T (.str s) = (match kitB "str" T with | some b => some (.bl b) | none => none) := rfl
@[simp] theorem z_tyn {T : String} : isTyD T .non = (match kitB "NoneType" T with | some b => some (.bl b) | none => none) := rfl
@[simp] theorem z_tyt {T : String} : isTyD T (.tup xs) = (match kitB "tuple" T with | some b => some (.bl b) | none => none) := rfl
@[simp] theorem z_tyl {T : String} : isTyD T (.lst o xs) = (match kitB "list" T with | some b => some (.bl b) | none => none) := rfl
@[simp] theorem z_owno {cs : List Nat} : isOwnD f cs (.obj o n ns xs) = (if cs.contains n then some (.bl (n == f)) else none) := rfl
@[simp] theorem z_ownn {cs : List Nat} : isOwnD f cs .non = some (.bl false) := rfl
theorem at_nat {α : Type} (xs : List α) (n : Nat) : atI xs (n : Int) = xs[n]? := by
  unfold atI ixN
  rw [if_pos (by omega)]
  by_cases h : n < xs.length
  · rw [if_pos (by omega)]; rfl
  · rw [if_neg (by omega)]
    simp
    omega
@[simp] theorem z_at0 {xs : List D} : atI xs 0 = xs[0]? := at_nat xs 0
@[simp] theorem z_at1 {xs : List D} : atI xs 1 = xs[1]? := at_nat xs 1
@[simp] theorem z_at2 {xs : List D} : atI xs 2 = xs[2]? := at_nat xs 2
@[simp] theorem z_at3 {xs : List D} : atI xs 3 = xs[3]? := at_nat xs 3
@[simp] theorem z_at4 {xs : List D} : atI xs 4 = xs[4]? := at_nat xs 4
@[simp] theorem z_at5 {xs : List D} : atI xs 5 = xs[5]? := at_nat xs 5
@[simp] theorem z_at6 {xs : List D} : atI xs 6 = xs[6]? := at_nat xs 6
@[simp] theorem z_at7 {xs : List D} : atI xs 7 = xs[7]? := at_nat xs 7
@[simp] theorem z_at8 {xs : List D} : atI xs 8 = xs[8]? := at_nat xs 8
@[simp] theorem z_at9 {xs : List D} : atI xs 9 = xs[9]? := at_nat xs 9
@[simp] theorem z_at10 {xs : List D} : atI xs 10 = xs[10]? := at_nat xs 10
@[simp] theorem z_at11 {xs : List D} : atI xs 11 = xs[11]? := at_nat xs 11
@[simp] theorem z_at12 {xs : List D} : atI xs 12 = xs[12]? := at_nat xs 12
@[simp] theorem z_at13 {xs : List D} : atI xs 13 = xs[13]? := at_nat xs 13
@[simp] theorem z_at14 {xs : List D} : atI xs 14 = xs[14]? := at_nat xs 14
@[simp] theorem z_at15 {xs : List D} : atI xs 15 = xs[15]? := at_nat xs 15
@[simp] theorem z_at16 {xs : List D} : atI xs 16 = xs[16]? := at_nat xs 16
@[simp] theorem z_at17 {xs : List D} : atI xs 17 = xs[17]? := at_nat xs 17
@[simp] theorem z_at18 {xs : List D} : atI xs 18 = xs[18]? := at_nat xs 18
@[simp] theorem z_at19 {xs : List D} : atI xs 19 = xs[19]? := at_nat xs 19
@[simp] theorem z_at20 {xs : List D} : atI xs 20 = xs[20]? := at_nat xs 20
@[simp] theorem z_at21 {xs : List D} : atI xs 21 = xs[21]? := at_nat xs 21
@[simp] theorem z_at22 {xs : List D} : atI xs 22 = xs[22]? := at_nat xs 22
@[simp] theorem z_at23 {xs : List D} : atI xs 23 = xs[23]? := at_nat xs 23
@[simp] theorem z_at24 {xs : List D} : atI xs 24 = xs[24]? := at_nat xs 24
@[simp] theorem z_at25 {xs : List D} : atI xs 25 = xs[25]? := at_nat xs 25
@[simp] theorem z_at26 {xs : List D} : atI xs 26 = xs[26]? := at_nat xs 26
@[simp] theorem z_at27 {xs : List D} : atI xs 27 = xs[27]? := at_nat xs 27
@[simp] theorem z_at28 {xs : List D} : atI xs 28 = xs[28]? := at_nat xs 28
@[simp] theorem z_at29 {xs : List D} : atI xs 29 = xs[29]? := at_nat xs 29
@[simp] theorem z_at30 {xs : List D} : atI xs 30 = xs[30]? := at_nat xs 30
@[simp] theorem z_at31 {xs : List D} : atI xs 31 = xs[31]? := at_nat xs 31
@[simp] theorem z_at32 {xs : List D} : atI xs 32 = xs[32]? := at_nat xs 32
/-- what a def tells -/
def val (F : Fn) (ds : List D) : Option R := match F ds with | some (r, _) => some r | none => none
theorem val_sem {n : Nat} {b : SM} {ds : List D} : val (semG n b) ds = (match b (ds ++ List.replicate (n - ds.length) .unk) with
    | some (.ret d, _) => some (.ok d)
    | some (.next, _) => some (.ok .non)
    | some (.exc x, _) => some (.error x)
    | _ => none) := by
  unfold val semG
  cases b (ds ++ List.replicate (n - ds.length) .unk) with
  | none => rfl
  | some q => obtain ⟨o, e⟩ := q; cases o <;> rfl
@[simp] theorem z_mCall (N : Nat) (F : Fn) (a : MA) (env : List D) : mCall N F a env = (match a env with
  | some (.ok ds, env1) => if noUnk ds && decide (ds.length = N) then (match val F (D.frs ds) with | some r => some (r, env1) | none => none) else none
  | some (.error x, env1) => some (.error x, env1)
  | none => none) := by
  unfold mCall val
  rcases a env with _ | ⟨_ | ds, e⟩
  · rfl
  · rfl
  · dsimp only
    rcases F (D.frs ds) with _ | ⟨_, _⟩ <;> rfl
@[simp] theorem z_mCallK (n m : Nat) (F : Fn) (a b : MA) (env : List D) : mCallK n m F a b env = (match a env with
  | some (.ok ds, env1) => (match b env1 with
    | some (.ok es, env2) => if noUnk (ds ++ es) && (decide (ds.length = n) && decide (es.length = m)) then (match val F (D.frs (ds ++ es)) with | some r => some (r, env2) | none => none) else none
    | some (.error x, env2) => some (.error x, env2)
    | none => none)
  | some (.error x, env1) => some (.error x, env1)
  | none => none) := by
  unfold mCallK val
  rcases a env with _ | ⟨_ | ds, e⟩
  · rfl
  · rfl
  · dsimp only
    rcases b e with _ | ⟨_ | es, e2⟩
    · rfl
    · rfl
    · dsimp only
      rcases F (D.frs (ds ++ es)) with _ | ⟨_, _⟩ <;> rfl
@[simp] theorem z_mMeth (c N : Nat) (F : Fn) (p : P) (a : MA) (env : List D) : mMeth c N F p a env = (match p env with
  | some d => if d.frz then (match d with
    | .obj _ c' _ _ => if c' = c then (match a env with
      | some (.ok ds, env1) => if noUnk ds && decide (ds.length + 1 = N) then (match val F (d :: D.frs ds) with | some r => some (r, env1) | none => none) else none
      | some (.error x, env1) => some (.error x, env1)
      | none => none) else none
    | _ => none) else none
  | none => none) := by
  unfold mMeth val
  rcases p env with _ | d
  · rfl
  · dsimp only
    cases d <;> try rfl
    dsimp only
    rcases a env with _ | ⟨_ | ds, e⟩
    · rfl
    · rfl
    · dsimp only
      rename_i o c' ns xs
      rcases F (D.obj o c' ns xs :: D.frs ds) with _ | ⟨_, _⟩ <;> rfl
theorem log2_lt_of {n k : Nat} (hk : 0 < k) (h : n < 2 ^ k) : n.log2 < k := by
  by_cases z : n = 0
  · subst z; simpa using hk
  · exact (Nat.log2_lt z).mpr h
theorem mulOk_of {i j : Int} (a b : Nat) (ha : 0 < a) (hb : 0 < b) (h : a + b ≤ 100000000) (hi : i.natAbs < 2 ^ a) (hj : j.natAbs < 2 ^ b) : mulOk i j = true := by
  have := log2_lt_of ha hi
  have := log2_lt_of hb hj
  exact decide_eq_true (by omega)
theorem mulOk_s {i j : Int} (h1 : -(2 ^ 62) ≤ i) (h2 : i ≤ 2 ^ 62) (h3 : -(2 ^ 62) ≤ j) (h4 : j ≤ 2 ^ 62) : mulOk i j = true := mulOk_of 63 63 (by decide) (by decide) (by decide) (by omega) (by omega)
theorem divOk_s {j : Int} (h3 : 0 < j) (h4 : j ≤ 2 ^ 62) : divOk j = true := by
  unfold divOk
  rw [Bool.and_eq_true]
  exact ⟨decide_eq_true h3, decide_eq_true (Nat.lt_trans (log2_lt_of (k := 63) (by decide) (by omega)) (by decide))⟩
end
end Y

namespace Y
open PySem L2 PySem.Spec PyProof.Rows ClX
/-! ### the law's end -/
theorem owns_int {θ : Th} {L : LM} {H : Hp} : ∀ (ns : List Int) (k : Nat), Owns θ L H none k (ns.map V.int) (ns.map D.int)
  | [], _ => .nil
  | n :: ns, k => .cons .int (owns_int ns (k + 1))
def spLaw (K : PySem.W.Frag) : Sp := fun vs H Q _ => ∃ (a : Addr) (ns : List Int), vs = [.ref a] ∧ SqL K H a (ns.map V.int) ∧ ns.length ≤ 63 ∧ (∀ z ∈ ns, Builtin.Int.intBits z ≤ 1048576) ∧ ∀ H', Q (.bl true) H'
theorem bits_lt {z : Int} (h : Builtin.Int.intBits z ≤ 1048576) : z.natAbs < 2 ^ 1048576 := by
  unfold Builtin.Int.intBits at h
  split at h
  · rename_i e
    have e2 : z = 0 := by simpa using e
    subst e2
    exact Nat.pow_pos (by decide)
  · rename_i e
    have e2 : z ≠ 0 := by simpa using e
    have z0 : z.natAbs ≠ 0 := by omega
    exact (Nat.log2_lt z0).mp (by omega)
theorem sp_end {θ : Th} {f : Fn} {vs : List V} {H : Hp} {Q : VK} {E : XK}
    (F : ∀ ns : List Int, ns.length ≤ 63 → (∀ z ∈ ns, z.natAbs < 2 ^ 1048576) → val f [.scr (ns.map .int)] = some (.ok (.bl true))) (h : spLaw θ.K vs H Q E) : spG θ [] 1 f vs H Q E := by
  obtain ⟨a, ns, rfl, hS, hl, hb, k⟩ := h
  have e := F ns hl fun z hz => bits_lt (hb z hz)
  unfold val at e
  cases hf : f [.scr (ns.map .int)] with
  | none => rw [hf] at e; cases e
  | some q =>
    obtain ⟨r, ds'⟩ := q
    rw [hf] at e
    have e1 : r = .ok (.bl true) := Option.some.inj e
    subst e1
    refine ⟨fun b => if b = a ∧ H a ≠ none then .fz else .no, [.scr (ns.map .int)], _, ds', rfl, rfl, ?_, ?_, hf, ?_⟩
    · intro b hb
      dsimp only at hb
      split at hb
      · rename_i z
        rw [z.1]
        exact z.2
      · exact absurd rfl hb
    · intro i d hd
      cases i with
      | succ i => cases hd
      | zero =>
        cases hd
        refine ⟨_, rfl, ?_⟩
        rcases hS with hS | ⟨o, its, n, h1, h2, h3, h4, h5, h6⟩
        · refine .scr ?_ hS (owns_int ns 0)
          rw [if_pos ⟨rfl, by rcases hS with z | ⟨o, z⟩ <;> rw [z] <;> exact (fun y => nomatch y)⟩]
        · exact .scrK h1 h2 h3 h4 h5 h6 (owns_int ns 0)
    · intro v H' L' m _ _ o
      cases o
      exact k H'
theorem kit_own {K : PySem.W.Frag} {t : Value} {C : Addr} {b : Bool} (hn : (t == Value.ref C) = false) (h1 : PySem.W.isClsIn K C = true) (h2 : PySem.W.typeIn K (.ref C) = some (.type "type")) (h3 : PySem.W.subIn K t (.ref C) = some b) : PySem.W.kitOne K t (.ref C) = some b := by
  unfold PySem.W.kitOne
  rw [if_neg (by rw [hn]; exact Bool.false_ne_true)]
  unfold PySem.W.kitCls
  have h1' : (PySem.W.clsIn K C).isSome = true := h1
  show (if ((PySem.W.clsIn K C).isSome && PySem.W.typeIn K (Value.ref C) == some (Value.type "type")) = true then PySem.W.subIn K t (Value.ref C) else none) = some b
  rw [if_pos (by rw [h1', h2]; rfl)]
  exact h3
theorem kit_self {K : PySem.W.Frag} {C : Addr} : PySem.W.kitOne K (.ref C) (.ref C) = some true := by
  unfold PySem.W.kitOne
  rw [if_pos (beq_self_eq_true _)]
theorem kit_ne {a b : Addr} (h : (a == b) = false) : (Value.ref a == Value.ref b) = false := by
  cases e : (Value.ref a == Value.ref b) with
  | false => rfl
  | true =>
    have := eq_of_beq e
    cases this
    rw [beq_self_eq_true] at h
    cases h
theorem ok_mono {P : Program} {w : World} {K : PySem.W.Frag} {mg : Str → Option Value} {base : Heap} {k : Nat} {f : Addr} {fd : FuncData} {ps : List Str} {sp sp' : Sp} {CX : CXT} (F : FnOk P w K mg base CX k f fd ps sp) (h : ∀ vs H Q E, sp' vs H Q E → sp vs H Q E) : FnOk P w K mg base CX k f fd ps sp' :=
  ⟨fun vs H Q E z => F.1 vs H Q E (h _ _ _ _ z), fun A outer s H args us vs Q E hr he hb hv z => F.2 A outer s H args us vs Q E hr he hb hv (h _ _ _ _ z)⟩
theorem walk {l : PySem.W.OpenLaw} {k : Nat} {q : Program} {loose : List Str} {XP : (Str → Option Value) → Heap → Prop} {YP : World → Heap → Prop} {d : DefRec} {K : Params → PySem.W.Frag} (hn : l.most = some 63) (hdf : d.params.defaults = []) (hr : Room k callerA)
    (hY : ∀ (w : World) (h : Heap), YP w h → (K w.params).In h)
    (F : ∀ (w : World) (mg : Str → Option Value) (fa : Addr) (h : Heap), (K w.params).In h → h.Ns mainGlobals mg → mg d.name = some (.ref fa) →
      ∃ fd : FuncData, (∀ (s : Shared) (u : Value), BindsTo s fd ⟨[u], []⟩ [("script", u)]) ∧ ∀ base : Heap, (K w.params).In base → base.Ns mainGlobals mg → FnOk l.prog w (K w.params) mg base (L2.CX l.prog w) k fa fd ["script"] (spLaw (K w.params))) :
    PySem.W.WalkO q loose XP YP l.row.toRowW d [] (fun f vs => PySem.call f vs) :=
  L2.walk_ofB (n := 63) (k := k) (x := "script") (CX := fun w => L2.CX l.prog w) (sp := fun w => spLaw (K w.params)) hn (by decide) hdf hr hY F (fun _ _ a ns hl hb _ hS => ⟨a, ns, rfl, hS, hl, hb, fun _ => rfl⟩) fun _ _ _ _ _ z => by
    obtain ⟨_, _, _, _, _, _, _, _, _, _, _, _, z⟩ := z
    exact z
end Y

namespace K89
open PySem L2 PySem.Spec PyProof.Rows ClX Y
def top (i : Nat) : Stmt := PySem.Challenge.pw_numbersenough_k89_windows_for_lifetimes.main.body.getD i (.Pass ⟨0, 0, 0, 0⟩)
/-! resends_base -/
abbrev s_resends_base : Stmt := top 1
def b_resends_base : SM := (sRet (mOrV (mP (pBin inD (pFld (pVar 0) 11) (pTup (plCons (pC (.str "any")) (plCons (pC (.str "first")) plNil))))) (mAndV (mP (pBin eqD (pFld (pVar 0) 11) (pC (.str "last")))) (mP (pBin eqD (pFld (pVar 0) 8) (pC (.int 1)))))))
def f_resends_base : Fn := semG 1 b_resends_base
/-! reach_of -/
abbrev s_reach_of : Stmt := top 2
def b_reach_of : SM := (sSeq (sIf (tM (mCall 1 f_resends_base (aCons (mVal 0) aNil))) (sRet (mP (pFld (pVar 0) 8))) sNext)
    (sRet (mP (pC (.int 1)))))
def f_reach_of : Fn := semG 1 b_reach_of
/-! gain_of -/
abbrev s_gain_of : Stmt := top 3
def b_gain_of : SM := (sSeq (sIf (tM (mCall 1 f_resends_base (aCons (mVal 0) aNil))) (sRet (mP (pB minD (plCons (pFld (pVar 0) 8) (plCons (pFld (pVar 0) 9) plNil))))) sNext)
    (sRet (mP (pB minD (plCons (pFld (pVar 0) 8) (plCons (pFld (pVar 0) 9) (plCons (pBin addD (pFld (pVar 1) 13) (pC (.int 1))) plNil)))))))
def f_gain_of : Fn := semG 2 b_gain_of
/-! growth -/
abbrev s_growth : Stmt := top 4
def b_growth : SM := (sSeq (sIf (tM (mP (pBin eqD (pFld (pVar 1) 14) (pC (.int 0))))) (sRet (mP (pC (.int 0)))) sNext)
    (sSeq (sSet 2 (mCall 2 f_gain_of (aCons (mVal 0) (aCons (mVal 1) aNil))))
    (sSeq (sIf (tM (mP (pBin eqD (pFld (pVar 0) 10) (pC (.str "free"))))) (sRet (mP (pBin mulD (pFld (pVar 1) 14) (pFld (pVar 0) 8)))) sNext)
    (sSeq (sIf (tM (mP (pBin eqD (pFld (pVar 0) 10) (pC (.str "fresh"))))) (sRet (mP (pBin mulD (pFld (pVar 1) 14) (pVar 2)))) sNext)
    (sRet (mP (pBin addD (pB minD (plCons (pBin addD (pBin subD (pVar 2) (pC (.int 1))) (pFld (pVar 0) 12)) (plCons (pFld (pVar 0) 8) plNil))) (pBin mulD (pBin subD (pFld (pVar 1) 14) (pC (.int 1))) (pB minD (plCons (pFld (pVar 0) 12) (plCons (pFld (pVar 0) 8) plNil)))))))))))
def f_growth : Fn := semG 3 b_growth
/-! least_by_formula -/
abbrev s_least_by_formula : Stmt := top 5
def b_least_by_formula : SM := (sRet (mB maxD (aCons (mBin addD (mBin addD (mCall 1 f_reach_of (aCons (mVal 0) aNil)) (mP (pFld (pVar 0) 9))) (mP (pFld (pVar 1) 13))) (aCons (mBin addD (mP (pBin addD (pFld (pVar 0) 8) (pC (.int 1)))) (mCall 2 f_growth (aCons (mVal 0) (aCons (mVal 1) aNil)))) aNil))))
def f_least_by_formula : Fn := semG 2 b_least_by_formula
/-! group_of -/
abbrev s_group_of : Stmt := top 15
def b_group_of : SM := (sSeq (sIf (tM (mP (pBin eqD (pVar 0) (pC (.str "each"))))) (sRet (mP (pC (.int 1)))) sNext)
    (sSeq (sIf (tOrM (tM (mP (pBin eqD (pVar 0) (pC (.str "free"))))) (tM (mP (pBin eqD (pVar 0) (pC (.str "fresh")))))) (sRet (mP (pC (.int 0)))) sNext)
    (sSeq (sSet 1 (mP (pSlS (pVar 0) (oSome (pC (.int 6))) oNone)))
    (sSeq (sIf (tOrM (tNotM (tM (mP (pMS startswithD (pVar 0) (plCons (pC (.str "every ")) plNil))))) (tOrM (tNotM (tM (mP (pMS isdigitD (pVar 1) plNil)))) (tOrM (tM (mP (pBin gtD (pB lenD (plCons (pVar 1) plNil)) (pC (.int 4))))) (tM (mP (pBin eqD (pIx (pVar 1) (pC (.int 0))) (pC (.str "0")))))))) (sRet (mP (pNeg (pC (.int 1))))) sNext)
    (sSeq (sSet 2 (mP (pB intD (plCons (pVar 1) plNil))))
    (sSeq (sIf (tM (mP (pChain leD leD (pC (.int 2)) (pVar 2) (pC (.int 1000))))) (sRet (mTake 2)) sNext)
    (sRet (mP (pNeg (pC (.int 1)))))))))))
def f_group_of : Fn := semG 3 b_group_of
/-! Rule.__init__ -/
abbrev s_Rule_init : Stmt := inClass (top 16) 0
def b_Rule_init : SM := (sSeq (sIf (tNotM (tM (mP (pChain leD leD (pC (.int 1)) (pVar 1) (pC (.int 1000)))))) sNever sNext)
    (sSeq (sIf (tNotM (tM (mP (pChain leD leD (pC (.int 1)) (pVar 2) (pC (.int 1000)))))) sNever sNext)
    (sSeq (sIf (tM (mBin ltD (mCall 1 f_group_of (aCons (mVal 3) aNil)) (mP (pC (.int 0))))) sNever sNext)
    (sSeq (sIf (tM (mP (pBin notInD (pVar 4) (pTup (plCons (pC (.str "any")) (plCons (pC (.str "first")) (plCons (pC (.str "last")) (plCons (pC (.str "none")) plNil)))))))) sNever sNext)
    (sSeq (sFldS 17 0 8 (mVal 1))
    (sSeq (sFldS 17 0 9 (mVal 2))
    (sSeq (sFldS 17 0 10 (mVal 3))
    (sSeq (sFldS 17 0 11 (mVal 4))
    (sFldS 17 0 12 (mCall 1 f_group_of (aCons (mVal 3) aNil)))))))))))
def f_Rule_init : Fn := semG 5 b_Rule_init
/-! Rule.fields -/
abbrev s_Rule_fields : Stmt := inClass (top 16) 1
def b_Rule_fields : SM := (sRet (mP (pTup (plCons (pFld (pVar 0) 8) (plCons (pFld (pVar 0) 9) (plCons (pFld (pVar 0) 10) (plCons (pFld (pVar 0) 11) plNil)))))))
def f_Rule_fields : Fn := semG 1 b_Rule_fields
/-! Channel.__init__ -/
abbrev s_Channel_init : Stmt := inClass (top 17) 0
def b_Channel_init : SM := (sSeq (sIf (tNotM (tM (mP (pChain leD leD (pC (.int 0)) (pVar 1) (pC (.int 1000)))))) sNever sNext)
    (sSeq (sIf (tNotM (tM (mP (pChain leD leD (pC (.int 0)) (pVar 2) (pC (.int 1000)))))) sNever sNext)
    (sSeq (sFldS 18 0 13 (mVal 1))
    (sFldS 18 0 14 (mVal 2)))))
def f_Channel_init : Fn := semG 3 b_Channel_init
/-! Channel.fields -/
abbrev s_Channel_fields : Stmt := inClass (top 17) 1
def b_Channel_fields : SM := (sRet (mP (pTup (plCons (pFld (pVar 0) 13) (plCons (pFld (pVar 0) 14) plNil)))))
def f_Channel_fields : Fn := semG 1 b_Channel_fields
/-! check_numbers -/
abbrev s_check_numbers : Stmt := top 18
def b_check_numbers : SM := (sIf (tNotM (tM (mP (pChain leD leD (pC (.int 1)) (pVar 0) (pC (.int 2000000)))))) sNever sNext)
def f_check_numbers : Fn := semG 1 b_check_numbers
/-! largest_window -/
abbrev s_largest_window : Stmt := top 20
def b_largest_window : SM := (sSeq (sDrop (mCall 1 f_check_numbers (aCons (mVal 1) aNil)))
    (sSeq (sSet 5 (mP (pC (.int 0))))
    (sSeq (sSet 6 (mP (pC (.int 1000))))
    (sSeq (sSet 7 (mMake 17 5 f_Rule_init (aCons (mP (pC (.int 1))) (aCons (mVal 2) (aCons (mVal 3) (aCons (mVal 4) aNil))))))
    (sSeq (whileM (tM (mP (pBin ltD (pVar 5) (pVar 6)))) (sSeq (sSet 8 (mP (pBin divD (pBin addD (pBin addD (pVar 5) (pVar 6)) (pC (.int 1))) (pC (.int 2)))))
    (sIf (tM (mBin leD (mCall 2 f_least_by_formula (aCons (mMake 17 5 f_Rule_init (aCons (mVal 8) (aCons (mP (pFld (pVar 7) 9)) (aCons (mVal 3) (aCons (mVal 4) aNil))))) (aCons (mVal 0) aNil))) (mVal 1))) (sSet 5 (mVal 8)) (sSet 6 (mP (pBin subD (pVar 8) (pC (.int 1))))))) 100000)
    (sRet (mTake 5)))))))
def f_largest_window : Fn := semG 9 b_largest_window
/-! Lifetime.__init__ -/
abbrev s_Lifetime_init : Stmt := inClass (top 22) 1
def b_Lifetime_init : SM := (sSeq (sIf (tNotM (tM (mP (pChain leD leD (pC (.int 0)) (pVar 1) (pC (.int 1000)))))) sNever sNext)
    (sSeq (sIf (tNotM (tM (mP (pChain leD leD (pC (.int 1)) (pVar 2) (pC (.int 1000)))))) sNever sNext)
    (sSeq (sFldS 37 0 48 (mVal 1))
    (sFldS 37 0 49 (mVal 2)))))
def f_Lifetime_init : Fn := semG 3 b_Lifetime_init
/-! lag -/
abbrev s_lag : Stmt := top 23
def b_lag : SM := (sRet (mP (pBin subD (pBin mulD (pFld (pVar 0) 49) (pBin addD (pFld (pVar 0) 48) (pC (.int 1)))) (pC (.int 1)))))
def f_lag : Fn := semG 1 b_lag
/-! lifetime_channel -/
abbrev s_lifetime_channel : Stmt := top 24
def b_lifetime_channel : SM := (sRet (mMake 18 3 f_Channel_init (aCons (mCall 1 f_lag (aCons (mVal 0) aNil)) (aCons (mVal 1) aNil))))
def f_lifetime_channel : Fn := semG 2 b_lifetime_channel
/-! least_for_lifetime -/
abbrev s_least_for_lifetime : Stmt := top 25
def b_least_for_lifetime : SM := (sRet (mCall 2 f_least_by_formula (aCons (mVal 0) (aCons (mCall 2 f_lifetime_channel (aCons (mVal 1) (aCons (mVal 2) aNil))) aNil))))
def f_least_for_lifetime : Fn := semG 3 b_least_for_lifetime
/-! longest_lifetime -/
abbrev s_longest_lifetime : Stmt := top 26
def b_longest_lifetime : SM := (sSeq (sDrop (mCall 1 f_check_numbers (aCons (mVal 3) aNil)))
    (sSeq (sIf (tM (mBin ltD (mVal 3) (mCall 3 f_least_for_lifetime (aCons (mVal 0) (aCons (mMake 37 3 f_Lifetime_init (aCons (mP (pC (.int 0))) (aCons (mVal 1) aNil))) (aCons (mVal 2) aNil)))))) (sRet (mP (pC .non))) sNext)
    (sSeq (sSet 4 (mP (pC (.int 0))))
    (sSeq (sSet 5 (mP (pBin subD (pBin divD (pBin addD (pC (.int 1000)) (pC (.int 1))) (pVar 1)) (pC (.int 1)))))
    (sSeq (whileM (tM (mP (pBin ltD (pVar 4) (pVar 5)))) (sSeq (sSet 6 (mP (pBin divD (pBin addD (pBin addD (pVar 4) (pVar 5)) (pC (.int 1))) (pC (.int 2)))))
    (sIf (tM (mBin leD (mCall 3 f_least_for_lifetime (aCons (mVal 0) (aCons (mMake 37 3 f_Lifetime_init (aCons (mVal 6) (aCons (mVal 1) aNil))) (aCons (mVal 2) aNil)))) (mVal 3))) (sSet 4 (mVal 6)) (sSet 5 (mP (pBin subD (pVar 6) (pC (.int 1))))))) 100000)
    (sRet (mMake 37 3 f_Lifetime_init (aCons (mVal 4) (aCons (mVal 1) aNil)))))))))
def f_longest_lifetime : Fn := semG 7 b_longest_lifetime
/-! _law_cell -/
abbrev s_law_cell : Stmt := top 28
def b_law_cell : SM := (sSeq (sIf (tM (mP (pBin ltD (pVar 1) (pB lenD (plCons (pVar 0) plNil))))) (sRet (mP (pIx (pVar 0) (pVar 1)))) sNext)
    (sRet (mP (pC (.int 0)))))
def f_law_cell : Fn := semG 2 b_law_cell
/-! _law_mix -/
abbrev s_law_mix : Stmt := top 29
def b_law_mix : SM := (sSeq (sSet 2 (mP (pBin modD (pB intD (plCons (pBin addD (pBin mulD (pB intD (plCons (pVar 0) plNil)) (pC (.int 48271))) (pBin mulD (pBin addD (pVar 1) (pC (.int 1))) (pC (.int 69621)))) plNil)) (pC (.int 2147483647)))))
    (sSeq (sSet 3 (mP (pBin modD (pB intD (plCons (pBin addD (pBin mulD (pVar 2) (pVar 2)) (pBin mulD (pBin addD (pVar 1) (pC (.int 3))) (pC (.int 40692)))) plNil)) (pC (.int 2147483629)))))
    (sRet (mP (pBin divD (pBin modD (pB intD (plCons (pBin addD (pBin mulD (pVar 3) (pVar 3)) (pVar 2)) plNil)) (pC (.int 2147483587))) (pC (.int 13)))))))
def f_law_mix : Fn := semG 4 b_law_mix
/-! _law_numbers -/
abbrev s_law_numbers : Stmt := top 30
def b_law_numbers : SM := (sSeq (sSet 3 (mLst aNil))
    (sSeq (sSet 4 (mB absD (aCons (mCall 2 f_law_cell (aCons (mVal 0) (aCons (mVal 1) aNil))) aNil)))
    (sSeq (sIf (tM (mP (pBin geD (pVar 4) (pBin powD (pC (.int 10)) (pC (.int 18)))))) (sForR1 (aCons (mVal 2) aNil) (gN 5) (sIf (tM (mP (pBin gtD (pVar 4) (pC (.int 0))))) (sSeq (sDrop (mApp 3 (mP (pBin modD (pB intD (plCons (pVar 4) plNil)) (pC (.int 1009))))))
    (sSet 4 (mP (pBin divD (pB intD (plCons (pVar 4) plNil)) (pC (.int 1009)))))) sNext)) sNext)
    (sSeq (sForR2 (aCons (mP (pB lenD (plCons (pVar 3) plNil))) (aCons (mVal 2) aNil)) (gN 5) (sDrop (mApp 3 (mCall 2 f_law_mix (aCons (mCall 2 f_law_cell (aCons (mVal 0) (aCons (mP (pBin modD (pBin addD (pVar 1) (pVar 5)) (pB maxD (plCons (pC (.int 1)) (plCons (pB lenD (plCons (pVar 0) plNil)) plNil))))) aNil))) (aCons (mP (pBin addD (pVar 1) (pVar 5))) aNil))))))
    (sRet (mTake 3))))))
def f_law_numbers : Fn := semG 6 b_law_numbers
/-! _law_like -/
abbrev s_law_like : Stmt := top 31
def b_law_like (Fr : Fn) : SM := (sSeq (sIf (tM (mP (pBin isND (pVar 1) (pC .non)))) (sRet (mP (pBin isND (pVar 0) (pC .non)))) sNext)
    (sSeq (sIf (tOrM (tM (mP (pUn (isTyD "bool") (pVar 1)))) (tM (mP (pUn (isTyD "bool") (pVar 0))))) (sRet (mAndV (mP (pUn (isTyD "bool") (pVar 1))) (mAndV (mP (pUn (isTyD "bool") (pVar 0))) (mP (pBin eqD (pVar 0) (pVar 1)))))) sNext)
    (sSeq (sIf (tOrM (tM (mP (pUn (isTyD "str") (pVar 1)))) (tM (mP (pUn (isTyD "int") (pVar 1))))) (sRet (mAndV (mP (pBin eqD (pUn (isTyD "str") (pVar 0)) (pUn (isTyD "str") (pVar 1)))) (mAndV (mP (pUn (isTy2D "str" "int") (pVar 0))) (mP (pBin eqD (pVar 0) (pVar 1)))))) sNext)
    (sSeq (sIf (tOrM (tM (mP (pBin neD (pUn (isTyD "list") (pVar 1)) (pUn (isTyD "list") (pVar 0))))) (tM (mP (pBin neD (pUn (isTyD "tuple") (pVar 1)) (pUn (isTyD "tuple") (pVar 0)))))) (sRet (mP (pC (.bl false)))) sNext)
    (sSeq (sIf (tOrM (tNotM (tM (mP (pUn (isTy2D "list" "tuple") (pVar 0))))) (tM (mP (pBin neD (pB lenD (plCons (pVar 0) plNil)) (pB lenD (plCons (pVar 1) plNil)))))) (sRet (mP (pC (.bl false)))) sNext)
    (sSeq (sForR1 (aCons (mP (pB lenD (plCons (pVar 1) plNil))) aNil) (gN 2) (sIf (tNotM (tM (mCall 2 Fr (aCons (mP (pIx (pVar 0) (pVar 2))) (aCons (mP (pIx (pVar 1) (pVar 2))) aNil))))) (sRet (mP (pC (.bl false)))) sNext))
    (sRet (mP (pC (.bl true))))))))))
def f_law_likeN : Nat → Fn
  | 0 => fun _ => none
  | n + 1 => semG 3 (b_law_like (f_law_likeN n))
def f_law_like : Fn := f_law_likeN 6
/-! _law_least -/
abbrev s_law_least : Stmt := top 32
def b_law_least : SM := (sSeq (sSet 7 (mP (pB minD (plCons (pVar 1) (plCons (pVar 0) plNil)))))
    (sSeq (sSet 8 (mVal 0))
    (sSeq (sIf (tOrM (tM (mP (pBin eqD (pVar 4) (pC (.str "none"))))) (tAndM (tM (mP (pBin eqD (pVar 4) (pC (.str "last"))))) (tM (mP (pBin gtD (pVar 0) (pC (.int 1))))))) (sSeq (sSet 7 (mP (pB minD (plCons (pVar 7) (plCons (pBin addD (pVar 5) (pC (.int 1))) plNil)))))
    (sSet 8 (mP (pC (.int 1))))) sNext)
    (sSeq (sSet 9 (mP (pC (.int 0))))
    (sSeq (sIf (tAndM (tM (mP (pBin gtD (pVar 6) (pC (.int 0))))) (tM (mP (pBin gtD (pVar 2) (pC (.int 0)))))) (sSet 9 (mP (pBin addD (pB minD (plCons (pBin addD (pBin subD (pVar 7) (pC (.int 1))) (pVar 2)) (plCons (pVar 0) plNil))) (pBin mulD (pBin subD (pVar 6) (pC (.int 1))) (pB minD (plCons (pVar 2) (plCons (pVar 0) plNil))))))) (sIf (tM (mP (pBin eqD (pVar 3) (pC (.str "free"))))) (sSet 9 (mP (pBin mulD (pVar 6) (pVar 0)))) (sIf (tM (mP (pBin eqD (pVar 2) (pC (.int 0))))) (sSet 9 (mP (pBin mulD (pVar 6) (pVar 7)))) sNext)))
    (sRet (mP (pB maxD (plCons (pBin addD (pBin addD (pVar 8) (pVar 1)) (pVar 5)) (plCons (pBin addD (pBin addD (pVar 0) (pC (.int 1))) (pVar 9)) plNil))))))))))
def f_law_least : Fn := semG 10 b_law_least
/-! _law_window -/
abbrev s_law_window : Stmt := top 33
def b_law_window : SM := (sSeq (sSet 7 (mP (pC (.int 0))))
    (sSeq (sSet 8 (mP (pC (.int 1000))))
    (sSeq (sForR1 (aCons (mP (pC (.int 12))) aNil) (gN 9) (sIf (tM (mP (pBin ltD (pVar 7) (pVar 8)))) (sSeq (sSet 10 (mP (pBin divD (pBin addD (pBin addD (pVar 7) (pVar 8)) (pC (.int 1))) (pC (.int 2)))))
    (sIf (tM (mBin leD (mCall 7 f_law_least (aCons (mVal 10) (aCons (mVal 0) (aCons (mVal 1) (aCons (mVal 2) (aCons (mVal 3) (aCons (mVal 4) (aCons (mVal 5) aNil)))))))) (mVal 6))) (sSet 7 (mVal 10)) (sSet 8 (mP (pBin subD (pVar 10) (pC (.int 1))))))) sNext))
    (sRet (mTake 7)))))
def f_law_window : Fn := semG 11 b_law_window
/-! _law_longest -/
abbrev s_law_longest : Stmt := top 34
def b_law_longest : SM := (sSeq (sSet 8 (mP (pNeg (pC (.int 1)))))
    (sSeq (sSet 9 (mP (pBin subD (pBin divD (pC (.int 1001)) (pVar 5)) (pC (.int 1)))))
    (sSeq (sForR1 (aCons (mP (pC (.int 12))) aNil) (gN 10) (sIf (tM (mP (pBin ltD (pVar 8) (pVar 9)))) (sSeq (sSet 11 (mP (pBin divD (pBin addD (pBin addD (pVar 8) (pVar 9)) (pC (.int 1))) (pC (.int 2)))))
    (sIf (tM (mBin leD (mCall 7 f_law_least (aCons (mVal 0) (aCons (mVal 1) (aCons (mVal 2) (aCons (mVal 3) (aCons (mVal 4) (aCons (mP (pBin subD (pBin mulD (pVar 5) (pBin addD (pVar 11) (pC (.int 1)))) (pC (.int 1)))) (aCons (mVal 6) aNil)))))))) (mVal 7))) (sSet 8 (mVal 11)) (sSet 9 (mP (pBin subD (pVar 11) (pC (.int 1))))))) sNext))
    (sRet (mTake 8)))))
def f_law_longest : Fn := semG 12 b_law_longest
/-! _law_side -/
abbrev s_law_side : Stmt := top 35
def b_law_side : SM := (sSeq (sAsg (gT [(gN 11), (gN 12), (gN 13), (gN 14)]) (mVal 1))
    (sSeq (sSet 7 (mMake 17 5 f_Rule_init (aCons (mVal 0) (aCons (mVal 11) (aCons (mVal 13) (aCons (mVal 14) aNil))))))
    (sSeq (sSet 8 (mCall 7 f_law_least (aCons (mVal 0) (aCons (mVal 11) (aCons (mVal 12) (aCons (mVal 13) (aCons (mVal 14) (aCons (mP (pBin subD (pBin mulD (pVar 3) (pBin addD (pVar 2) (pC (.int 1)))) (pC (.int 1)))) (aCons (mVal 4) aNil)))))))))
    (sSeq (sIf (tOrM (tNotM (tM (mCall 2 f_law_like (aCons (mCall 3 f_least_for_lifetime (aCons (mVal 7) (aCons (mMake 37 3 f_Lifetime_init (aCons (mVal 2) (aCons (mVal 3) aNil))) (aCons (mVal 4) aNil)))) (aCons (mVal 8) aNil))))) (tM (mP (pBin neD (pBin leD (pVar 8) (pVar 5)) (pVar 6))))) (sRet (mP (pC (.bl false)))) sNext)
    (sSeq (sSet 9 (mCall 8 f_law_longest (aCons (mVal 0) (aCons (mVal 11) (aCons (mVal 12) (aCons (mVal 13) (aCons (mVal 14) (aCons (mVal 3) (aCons (mVal 4) (aCons (mVal 5) aNil))))))))))
    (sSeq (sSet 10 (mCall 4 f_longest_lifetime (aCons (mVal 7) (aCons (mVal 3) (aCons (mVal 4) (aCons (mVal 5) aNil))))))
    (sSeq (sIf (tM (mP (pBin ltD (pVar 9) (pC (.int 0))))) (sRet (mAndV (mP (pBin isND (pVar 10) (pC .non))) (mNotV (mVal 6)))) sNext)
    (sSeq (sIf (tOrM (tNotM (tM (mP (pUn (isOwnD 37 [37]) (pVar 10))))) (tNotM (tM (mCall 2 f_law_like (aCons (mP (pTup (plCons (pFld (pVar 10) 48) (plCons (pFld (pVar 10) 49) plNil)))) (aCons (mP (pTup (plCons (pVar 9) (plCons (pVar 3) plNil)))) aNil)))))) (sRet (mP (pC (.bl false)))) sNext)
    (sRet (mP (pBin eqD (pBin geD (pVar 9) (pVar 2)) (pVar 6))))))))))))
def f_law_side : Fn := semG 15 b_law_side
/-! _law_rule_drawn -/
abbrev s_law_rule_drawn : Stmt := top 36
def b_law_rule_drawn : SM := (sSeq (sSet 1 (mP (pBin addD (pC (.int 1)) (pBin modD (pIx (pVar 0) (pC (.int 0))) (pC (.int 9))))))
    (sSeq (sIf (tM (mP (pBin eqD (pBin modD (pIx (pVar 0) (pC (.int 1))) (pC (.int 6))) (pC (.int 1))))) (sSet 1 (mP (pBin addD (pC (.int 1)) (pBin modD (pIx (pVar 0) (pC (.int 0))) (pC (.int 1000)))))) sNext)
    (sSeq (sSet 2 (mP (pBin modD (pIx (pVar 0) (pC (.int 3))) (pC (.int 6)))))
    (sSeq (sSet 3 (mP (pIx (pLst (plCons (pC (.int 1)) (plCons (pBin addD (pC (.int 2)) (pBin modD (pIx (pVar 0) (pC (.int 2))) (pC (.int 9)))) (plCons (pC (.int 0)) (plCons (pC (.int 0)) (plCons (pC (.int 1)) (plCons (pBin addD (pC (.int 2)) (pBin modD (pIx (pVar 0) (pC (.int 2))) (pC (.int 999)))) plNil))))))) (pVar 2))))
    (sSeq (sSet 4 (mP (pIx (pLst (plCons (pC (.str "each")) (plCons (pBin addD (pC (.str "every ")) (pB strD (plCons (pVar 3) plNil))) (plCons (pC (.str "free")) (plCons (pC (.str "fresh")) (plCons (pC (.str "each")) (plCons (pBin addD (pC (.str "every ")) (pB strD (plCons (pVar 3) plNil))) plNil))))))) (pVar 2))))
    (sRet (mP (pTup (plCons (pVar 1) (plCons (pVar 3) (plCons (pVar 4) (plCons (pIx (pLst (plCons (pC (.str "any")) (plCons (pC (.str "first")) (plCons (pC (.str "last")) (plCons (pC (.str "none")) plNil))))) (pBin modD (pIx (pVar 0) (pC (.int 4))) (pC (.int 4)))) plNil))))))))))))
def f_law_rule_drawn : Fn := semG 5 b_law_rule_drawn
/-! _law_life_drawn -/
abbrev s_law_life_drawn : Stmt := top 37
def b_law_life_drawn : SM := (sSeq (sSet 1 (mP (pBin addD (pC (.int 1)) (pBin modD (pIx (pVar 0) (pC (.int 5))) (pC (.int 9))))))
    (sSeq (sIf (tM (mP (pBin eqD (pBin modD (pIx (pVar 0) (pC (.int 6))) (pC (.int 6))) (pC (.int 1))))) (sSet 1 (mP (pBin addD (pC (.int 1)) (pBin modD (pIx (pVar 0) (pC (.int 5))) (pC (.int 1000)))))) sNext)
    (sSeq (sIf (tM (mP (pBin eqD (pBin modD (pIx (pVar 0) (pC (.int 6))) (pC (.int 6))) (pC (.int 2))))) (sSet 1 (mP (pIx (pLst (plCons (pC (.int 1)) (plCons (pC (.int 7)) (plCons (pC (.int 11)) (plCons (pC (.int 13)) (plCons (pC (.int 77)) (plCons (pC (.int 91)) (plCons (pC (.int 143)) plNil)))))))) (pBin modD (pIx (pVar 0) (pC (.int 5))) (pC (.int 7)))))) sNext)
    (sSeq (sSet 2 (mP (pBin subD (pBin divD (pC (.int 1001)) (pVar 1)) (pC (.int 1)))))
    (sSeq (sSet 3 (mP (pBin modD (pIx (pVar 0) (pC (.int 7))) (pBin addD (pB minD (plCons (pVar 2) (plCons (pC (.int 50)) plNil))) (pC (.int 1))))))
    (sSeq (sIf (tM (mP (pBin eqD (pBin modD (pIx (pVar 0) (pC (.int 8))) (pC (.int 4))) (pC (.int 1))))) (sSet 3 (mP (pBin modD (pIx (pVar 0) (pC (.int 7))) (pBin addD (pVar 2) (pC (.int 1)))))) sNext)
    (sSeq (sIf (tM (mP (pBin eqD (pBin modD (pIx (pVar 0) (pC (.int 8))) (pC (.int 4))) (pC (.int 2))))) (sSet 3 (mVal 2)) sNext)
    (sRet (mP (pTup (plCons (pVar 3) (plCons (pVar 1) plNil))))))))))))
def f_law_life_drawn : Fn := semG 4 b_law_life_drawn
/-! law -/
abbrev s_law : Stmt := top 38
def b_law : SM := (sSeq (sSet 1 (mCall 3 f_law_numbers (aCons (mVal 0) (aCons (mP (pC (.int 0))) (aCons (mP (pC (.int 14))) aNil)))))
    (sSeq (sSet 2 (mCall 1 f_law_rule_drawn (aCons (mVal 1) aNil)))
    (sSeq (sAsg (gT [(gN 10), (gN 11), (gN 12), (gN 13)]) (mVal 2))
    (sSeq (sAsg (gT [(gN 14), (gN 15)]) (mCall 1 f_law_life_drawn (aCons (mVal 1) aNil)))
    (sSeq (sSet 3 (mP (pBin modD (pIx (pVar 1) (pC (.int 9))) (pC (.int 6)))))
    (sSeq (sIf (tM (mP (pBin eqD (pBin modD (pIx (pVar 1) (pC (.int 10))) (pC (.int 6))) (pC (.int 1))))) (sSet 3 (mP (pBin modD (pIx (pVar 1) (pC (.int 9))) (pC (.int 1001))))) sNext)
    (sSeq (sSet 4 (mP (pBin addD (pC (.int 1)) (pBin modD (pIx (pVar 1) (pC (.int 11))) (pC (.int 40))))))
    (sSeq (sIf (tM (mP (pBin eqD (pBin modD (pIx (pVar 1) (pC (.int 12))) (pC (.int 4))) (pC (.int 1))))) (sSet 4 (mP (pBin addD (pC (.int 1)) (pBin modD (pIx (pVar 1) (pC (.int 11))) (pC (.int 1000)))))) sNext)
    (sSeq (sIf (tM (mP (pBin eqD (pBin modD (pIx (pVar 1) (pC (.int 12))) (pC (.int 4))) (pC (.int 2))))) (sSet 4 (mP (pC (.int 1)))) sNext)
    (sSeq (sIf (tM (mP (pBin eqD (pBin modD (pIx (pVar 1) (pC (.int 12))) (pC (.int 8))) (pC (.int 3))))) (sSet 4 (mP (pBin subD (pC (.int 1000)) (pBin modD (pIx (pVar 1) (pC (.int 11))) (pC (.int 2)))))) sNext)
    (sSeq (sSet 5 (mP (pBin subD (pBin mulD (pVar 15) (pBin addD (pVar 14) (pC (.int 1)))) (pC (.int 1)))))
    (sSeq (sSet 6 (mBin addD (mBin subD (mCall 7 f_law_least (aCons (mVal 4) (aCons (mVal 10) (aCons (mVal 11) (aCons (mVal 12) (aCons (mVal 13) (aCons (mVal 5) (aCons (mVal 3) aNil)))))))) (mP (pC (.int 1)))) (mP (pBin modD (pIx (pVar 1) (pC (.int 13))) (pC (.int 3))))))
    (sSeq (sSet 7 (mMake 37 3 f_Lifetime_init (aCons (mVal 14) (aCons (mVal 15) aNil))))
    (sSeq (sSet 8 (mCall 2 f_lifetime_channel (aCons (mVal 7) (aCons (mVal 3) aNil))))
    (sSeq (sIf (tOrM (tNotM (tM (mCall 2 f_law_like (aCons (mCall 1 f_lag (aCons (mVal 7) aNil)) (aCons (mVal 5) aNil))))) (tOrM (tNotM (tM (mP (pUn (isOwnD 18 [18]) (pVar 8))))) (tNotM (tM (mCall 2 f_law_like (aCons (mFz 8 (mMeth 18 1 f_Channel_fields (pVar 8) aNil)) (aCons (mP (pTup (plCons (pVar 5) (plCons (pVar 3) plNil)))) aNil))))))) (sRet (mP (pC (.bl false)))) sNext)
    (sSeq (sSet 9 (mCall 7 f_law_window (aCons (mVal 10) (aCons (mVal 11) (aCons (mVal 12) (aCons (mVal 13) (aCons (mVal 5) (aCons (mVal 3) (aCons (mVal 6) aNil)))))))))
    (sSeq (sIf (tNotM (tM (mCall 2 f_law_like (aCons (mCallK 2 3 f_largest_window (aCons (mVal 8) (aCons (mVal 6) aNil)) (aCons (mVal 10) (aCons (mVal 12) (aCons (mVal 13) aNil)))) (aCons (mVal 9) aNil))))) (sRet (mP (pC (.bl false)))) sNext)
    (sSeq (sIf (tAndM (tM (mP (pBin gtD (pVar 9) (pC (.int 0))))) (tNotM (tM (mCall 7 f_law_side (aCons (mVal 9) (aCons (mVal 2) (aCons (mVal 14) (aCons (mVal 15) (aCons (mVal 3) (aCons (mVal 6) (aCons (mP (pC (.bl true))) aNil))))))))))) (sRet (mP (pC (.bl false)))) sNext)
    (sRet (mOrV (mP (pBin eqD (pVar 9) (pC (.int 1000)))) (mCall 7 f_law_side (aCons (mP (pBin addD (pVar 9) (pC (.int 1)))) (aCons (mVal 2) (aCons (mVal 14) (aCons (mVal 15) (aCons (mVal 3) (aCons (mVal 6) (aCons (mP (pC (.bl false))) aNil))))))))))))))))))))))))))))
def f_law : Fn := semG 16 b_law
end K89

namespace K89
open PySem L2 PySem.Spec PyProof.Rows ClX Y
structure Txt (Γ : Wd) : Prop where
  b_abs : Γ.mg "abs" = none
  b_bool : Γ.mg "bool" = none
  b_int : Γ.mg "int" = none
  b_isinstance : Γ.mg "isinstance" = none
  b_len : Γ.mg "len" = none
  b_list : Γ.mg "list" = none
  b_max : Γ.mg "max" = none
  b_min : Γ.mg "min" = none
  b_range : Γ.mg "range" = none
  b_str : Γ.mg "str" = none
  b_tuple : Γ.mg "tuple" = none
  c_MOST_NUMBERS : Γ.mg "MOST_NUMBERS" = some (.int 2000000 (Γ.tk 0))
  c_MOST_SIZE : Γ.mg "MOST_SIZE" = some (.int 1000 (Γ.tk 1))
  m_Channel : Γ.mg "Channel" = some (.ref (Γ.cA 18))
  m_Lifetime : Γ.mg "Lifetime" = some (.ref (Γ.cA 37))
  r_Lifetime : CRead Γ.K (Γ.cA 37) (Γ.mc 37)
  v_Lifetime_MOST_TICKS : CVal Γ.K (Γ.cA 37) (Γ.mc 37) "MOST_TICKS" (.int 1000) (.int 1000 (Γ.tk 2))
  i_Channel : IsF Γ.θ 18 [18]
  t_Channel : ∀ c' ∈ ([18] : List Nat), TyF Γ.θ c'
  i_Lifetime : IsF Γ.θ 37 [37]
  t_Lifetime : ∀ c' ∈ ([37] : List Nat), TyF Γ.θ c'
theorem ok_resends_base {Γ : Wd} (T : Txt Γ) (F : (∃ f fd, Fun Γ.K "resends_base" "resends_base" s_resends_base f fd ∧ Γ.mg "resends_base" = some (.ref f) ∧ Binds Γ.K fd ["rule"] []))  : FnAt Γ "resends_base" 1 1 f_resends_base :=
  fn_at (N := (["rule"] : List Str)) (ps := (["rule"] : List Str)) F ⟨rfl, rfl, rfl, by decide +kernel, rfl, by decide +kernel, by decide +kernel⟩ (fun f cdv A outer s H E W I => by
  have nd : (["rule"] : List Str).Nodup := by decide +kernel
  exact (xss_one (xs_ret (xm_or (xm_p (xp_cmp (of_in (in_hK I)) (xp_fld (f := 11) (in_hK I) (by rfl) (xp_var 0 (pv 0)) (by rfl)) (xp_tup (xpl_cons xp_str (xpl_cons xp_str xpl_nil))) (by rfl))) (xm_one (xm_and (xm_p (xp_cmp of_eq (xp_fld (f := 11) (in_hK I) (by rfl) (xp_var 0 (pv 0)) (by rfl)) xp_str (nomark _))) (xm_one (xm_p (xp_cmp of_eq (xp_fld (f := 8) (in_hK I) (by rfl) (xp_var 0 (pv 0)) (by rfl)) xp_int (nomark _))))))))))

theorem ok_reach_of {Γ : Wd} (T : Txt Γ) (F : (∃ f fd, Fun Γ.K "reach_of" "reach_of" s_reach_of f fd ∧ Γ.mg "reach_of" = some (.ref f) ∧ Binds Γ.K fd ["rule"] [])) (h_resends_base : FnAt Γ "resends_base" 1 1 f_resends_base) : FnAt Γ "reach_of" 2 1 f_reach_of :=
  fn_at (N := (["rule"] : List Str)) (ps := (["rule"] : List Str)) F ⟨rfl, rfl, rfl, by decide +kernel, rfl, by decide +kernel, by decide +kernel⟩ (fun f cdv A outer s H E W I => by
  have nd : (["rule"] : List Str).Nodup := by decide +kernel
  exact (xss_cons (xs_if (xt_val (yc I h_resends_base (by decide) (by rfl) (xa_cons (xm_val 0 (pv 0)) xa_nil))) (xss_one (xs_ret (xm_p (xp_fld (f := 8) (in_hK I) (by rfl) (xp_var 0 (pv 0)) (by rfl))))) xss_nil)
    (xss_one (xs_ret (xm_p xp_int)))))

theorem ok_gain_of {Γ : Wd} (T : Txt Γ) (F : (∃ f fd, Fun Γ.K "gain_of" "gain_of" s_gain_of f fd ∧ Γ.mg "gain_of" = some (.ref f) ∧ Binds Γ.K fd ["rule", "channel"] [])) (h_resends_base : FnAt Γ "resends_base" 1 1 f_resends_base) : FnAt Γ "gain_of" 2 2 f_gain_of :=
  fn_at (N := (["rule", "channel"] : List Str)) (ps := (["rule", "channel"] : List Str)) F ⟨rfl, rfl, rfl, by decide +kernel, rfl, by decide +kernel, by decide +kernel⟩ (fun f cdv A outer s H E W I => by
  have nd : (["rule", "channel"] : List Str).Nodup := by decide +kernel
  exact (xss_cons (xs_if (xt_val (yc I h_resends_base (by decide) (by rfl) (xa_cons (xm_val 0 (pv 0)) xa_nil))) (xss_one (xs_ret (xm_p (xp_b (bf_min rfl) (by rfl) T.b_min bt_min (xpl_cons (xp_fld (f := 8) (in_hK I) (by rfl) (xp_var 0 (pv 0)) (by rfl)) (xpl_cons (xp_fld (f := 9) (in_hK I) (by rfl) (xp_var 0 (pv 0)) (by rfl)) xpl_nil)))))) xss_nil)
    (xss_one (xs_ret (xm_p (xp_b (bf_min rfl) (by rfl) T.b_min bt_min (xpl_cons (xp_fld (f := 8) (in_hK I) (by rfl) (xp_var 0 (pv 0)) (by rfl)) (xpl_cons (xp_fld (f := 9) (in_hK I) (by rfl) (xp_var 0 (pv 0)) (by rfl)) (xpl_cons (xp_op of_add (xp_fld (f := 13) (in_hK I) (by rfl) (xp_var 1 (pv 1)) (by rfl)) xp_int) xpl_nil)))))))))

theorem ok_growth {Γ : Wd} (T : Txt Γ) (F : (∃ f fd, Fun Γ.K "growth" "growth" s_growth f fd ∧ Γ.mg "growth" = some (.ref f) ∧ Binds Γ.K fd ["rule", "channel"] [])) (h_gain_of : FnAt Γ "gain_of" 2 2 f_gain_of) : FnAt Γ "growth" 3 2 f_growth :=
  fn_at (N := (["rule", "channel", "gain"] : List Str)) (ps := (["rule", "channel"] : List Str)) F ⟨rfl, rfl, rfl, by decide +kernel, rfl, by decide +kernel, by decide +kernel⟩ (fun f cdv A outer s H E W I => by
  have nd : (["rule", "channel", "gain"] : List Str).Nodup := by decide +kernel
  exact (xss_cons (xs_if (xt_pcmp of_eq (xp_fld (f := 14) (in_hK I) (by rfl) (xp_var 1 (pv 1)) (by rfl)) xp_int (nomark _)) (xss_one (xs_ret (xm_p xp_int))) xss_nil)
    (xss_cons (xs_set (i := 2) nd rfl (.inl rfl) rfl (yc I h_gain_of (by decide) (by rfl) (xa_cons (xm_val 0 (pv 0)) (xa_cons (xm_val 1 (pv 1)) xa_nil))))
    (xss_cons (xs_if (xt_pcmp of_eq (xp_fld (f := 10) (in_hK I) (by rfl) (xp_var 0 (pv 0)) (by rfl)) xp_str (nomark _)) (xss_one (xs_ret (xm_p (xp_op of_mul (xp_fld (f := 14) (in_hK I) (by rfl) (xp_var 1 (pv 1)) (by rfl)) (xp_fld (f := 8) (in_hK I) (by rfl) (xp_var 0 (pv 0)) (by rfl)))))) xss_nil)
    (xss_cons (xs_if (xt_pcmp of_eq (xp_fld (f := 10) (in_hK I) (by rfl) (xp_var 0 (pv 0)) (by rfl)) xp_str (nomark _)) (xss_one (xs_ret (xm_p (xp_op of_mul (xp_fld (f := 14) (in_hK I) (by rfl) (xp_var 1 (pv 1)) (by rfl)) (xp_var 2 (pv 2)))))) xss_nil)
    (xss_one (xs_ret (xm_p (xp_op of_add (xp_b (bf_min rfl) (by rfl) T.b_min bt_min (xpl_cons (xp_op of_add (xp_op of_sub (xp_var 2 (pv 2)) xp_int) (xp_fld (f := 12) (in_hK I) (by rfl) (xp_var 0 (pv 0)) (by rfl))) (xpl_cons (xp_fld (f := 8) (in_hK I) (by rfl) (xp_var 0 (pv 0)) (by rfl)) xpl_nil))) (xp_op of_mul (xp_op of_sub (xp_fld (f := 14) (in_hK I) (by rfl) (xp_var 1 (pv 1)) (by rfl)) xp_int) (xp_b (bf_min rfl) (by rfl) T.b_min bt_min (xpl_cons (xp_fld (f := 12) (in_hK I) (by rfl) (xp_var 0 (pv 0)) (by rfl)) (xpl_cons (xp_fld (f := 8) (in_hK I) (by rfl) (xp_var 0 (pv 0)) (by rfl)) xpl_nil)))))))))))))

theorem ok_least_by_formula {Γ : Wd} (T : Txt Γ) (F : (∃ f fd, Fun Γ.K "least_by_formula" "least_by_formula" s_least_by_formula f fd ∧ Γ.mg "least_by_formula" = some (.ref f) ∧ Binds Γ.K fd ["rule", "channel"] [])) (h_growth : FnAt Γ "growth" 3 2 f_growth) (h_reach_of : FnAt Γ "reach_of" 2 1 f_reach_of) : FnAt Γ "least_by_formula" 4 2 f_least_by_formula :=
  fn_at (N := (["rule", "channel"] : List Str)) (ps := (["rule", "channel"] : List Str)) F ⟨rfl, rfl, rfl, by decide +kernel, rfl, by decide +kernel, by decide +kernel⟩ (fun f cdv A outer s H E W I => by
  have nd : (["rule", "channel"] : List Str).Nodup := by decide +kernel
  exact (xss_one (xs_ret (xm_b (bf_max rfl) (by rfl) T.b_max bt_max (xa_cons (xm_op of_add nu_add (xm_op of_add nu_add (yc I h_reach_of (by decide) (by rfl) (xa_cons (xm_val 0 (pv 0)) xa_nil)) (xm_p (xp_fld (f := 9) (in_hK I) (by rfl) (xp_var 0 (pv 0)) (by rfl)))) (xm_p (xp_fld (f := 13) (in_hK I) (by rfl) (xp_var 1 (pv 1)) (by rfl)))) (xa_cons (xm_op of_add nu_add (xm_p (xp_op of_add (xp_fld (f := 8) (in_hK I) (by rfl) (xp_var 0 (pv 0)) (by rfl)) xp_int)) (yc I h_growth (by decide) (by rfl) (xa_cons (xm_val 0 (pv 0)) (xa_cons (xm_val 1 (pv 1)) xa_nil)))) xa_nil))))))

theorem ok_group_of {Γ : Wd} (T : Txt Γ) (F : (∃ f fd, Fun Γ.K "group_of" "group_of" s_group_of f fd ∧ Γ.mg "group_of" = some (.ref f) ∧ Binds Γ.K fd ["acks"] []))  : FnAt Γ "group_of" 1 1 f_group_of :=
  fn_at (N := (["acks", "digits", "group"] : List Str)) (ps := (["acks"] : List Str)) F ⟨rfl, rfl, rfl, by decide +kernel, rfl, by decide +kernel, by decide +kernel⟩ (fun f cdv A outer s H E W I => by
  have nd : (["acks", "digits", "group"] : List Str).Nodup := by decide +kernel
  exact (xss_cons (xs_if (xt_pcmp of_eq (xp_var 0 (pv 0)) xp_str (nomark _)) (xss_one (xs_ret (xm_p xp_int))) xss_nil)
    (xss_cons (xs_if (PW.pt (xw_or (xt_pcmp of_eq (xp_var 0 (pv 0)) xp_str (nomark _)) (xw_or1 (xt_pcmp of_eq (xp_var 0 (pv 0)) xp_str (nomark _))))) (xss_one (xs_ret (xm_p xp_int))) xss_nil)
    (xss_cons (xs_set (i := 1) nd rfl (.inl rfl) rfl (xm_p (xp_slS (xp_var 0 (pv 0)) (xo_some xp_int) xo_none)))
    (xss_cons (xs_if (PW.pt (xw_or (xt_not (xt_val (xm_p (xp_ms1 PySem.F.slot_str_startswith PySem.F.type_str_startswith ms_startswith (xp_var 0 (pv 0)) xp_str)))) (xw_or (xt_not (xt_val (xm_p (xp_ms0 PySem.F.slot_str_isdigit PySem.F.type_str_isdigit ms_isdigit (xp_var 1 (pv 1)))))) (xw_or (xt_pcmp of_gt (xp_b (bf_len (in_hK I)) (by rfl) T.b_len bt_len (xpl_cons (xp_var 1 (pv 1)) xpl_nil)) xp_int (nomark _)) (xw_or1 (xt_pcmp of_eq (xp_ix (in_hK I) (xp_var 1 (pv 1)) xp_int) xp_str (nomark _))))))) (xss_one (xs_ret (xm_p (xp_neg xp_int)))) xss_nil)
    (xss_cons (xs_set (i := 2) nd rfl (.inl rfl) rfl (xm_p (xp_ty bf_int (by rfl) T.b_int bt_int (xpl_cons (xp_var 1 (pv 1)) xpl_nil))))
    (xss_cons (xs_if (xt_pchain of_le of_le xp_int (xp_var 2 (pv 2)) (xp_c (pe_glob (v := .int 1000) (by rfl) T.c_MOST_SIZE ⟨_, rfl⟩) fun _ _ => .int)) (xss_one (xs_ret (xm_take 2 (pv 2)))) xss_nil)
    (xss_one (xs_ret (xm_p (xp_neg xp_int)))))))))))

theorem ok_Rule_init {Γ : Wd} (T : Txt Γ) (cf : CF Γ.θ 17) (F : (∃ f fd, Fun Γ.K "__init__" "Rule.__init__" s_Rule_init f fd ∧ L2.Mk Γ.K (Γ.cA 17) f ∧ Γ.mg "Rule" = some (.ref (Γ.cA 17)) ∧ Binds Γ.K fd ["self", "w", "r", "acks", "resend"] [])) (h_group_of : FnAt Γ "group_of" 1 1 f_group_of) : MkAt Γ "Rule" 17 2 5 f_Rule_init :=
  mk_at (N := (["self", "w", "r", "acks", "resend"] : List Str)) (ps := (["self", "w", "r", "acks", "resend"] : List Str)) cf F ⟨rfl, rfl, rfl, by decide +kernel, rfl, by decide +kernel, by decide +kernel⟩ (by decide) (fun f cdv A outer s H E W I => by
  have nd : (["self", "w", "r", "acks", "resend"] : List Str).Nodup := by decide +kernel
  exact (xss_cons (xs_if (xt_not (xt_pchain of_le of_le xp_int (xp_var 1 (pv 1)) (xp_c (pe_glob (v := .int 1000) (by rfl) T.c_MOST_SIZE ⟨_, rfl⟩) fun _ _ => .int))) (xss_one xs_never) xss_nil)
    (xss_cons (xs_if (xt_not (xt_pchain of_le of_le xp_int (xp_var 2 (pv 2)) (xp_c (pe_glob (v := .int 1000) (by rfl) T.c_MOST_SIZE ⟨_, rfl⟩) fun _ _ => .int))) (xss_one xs_never) xss_nil)
    (xss_cons (xs_if (xt_cmp of_lt nu_lt (yc I h_group_of (by decide) (by rfl) (xa_cons (xm_val 3 (pv 3)) xa_nil)) (xm_p xp_int) (nomark _)) (xss_one xs_never) xss_nil)
    (xss_cons (xs_if (xt_pcmp (of_notIn (in_hK I)) (xp_var 4 (pv 4)) (xp_tup (xpl_cons xp_str (xpl_cons xp_str (xpl_cons xp_str (xpl_cons xp_str xpl_nil))))) (by rfl)) (xss_one xs_never) xss_nil)
    (xss_cons (xs_fld (c := 17) (i := 0) (f := 8) (in_hK I) (by rfl) (show 8 ∈ flT 17 by decide) (pv 0) (xm_val 1 (pv 1)))
    (xss_cons (xs_fld (c := 17) (i := 0) (f := 9) (in_hK I) (by rfl) (show 9 ∈ flT 17 by decide) (pv 0) (xm_val 2 (pv 2)))
    (xss_cons (xs_fld (c := 17) (i := 0) (f := 10) (in_hK I) (by rfl) (show 10 ∈ flT 17 by decide) (pv 0) (xm_val 3 (pv 3)))
    (xss_cons (xs_fld (c := 17) (i := 0) (f := 11) (in_hK I) (by rfl) (show 11 ∈ flT 17 by decide) (pv 0) (xm_val 4 (pv 4)))
    (xss_one (xs_fld (c := 17) (i := 0) (f := 12) (in_hK I) (by rfl) (show 12 ∈ flT 17 by decide) (pv 0) (yc I h_group_of (by decide) (by rfl) (xa_cons (xm_val 3 (pv 3)) xa_nil)))))))))))))

theorem ok_Rule_fields {Γ : Wd} (T : Txt Γ) (cf : CF Γ.θ 17) (F : (∃ f fd, Fun Γ.K "fields" "Rule.fields" s_Rule_fields f fd ∧ Meth Γ.K (Γ.cA 17) "fields" f ∧ Binds Γ.K fd ["self"] []))  : MeAt Γ "fields" 17 1 1 f_Rule_fields :=
  me_at (N := (["self"] : List Str)) (ps := (["self"] : List Str)) cf (show ∀ g ∈ flT 17, nmT g ≠ "fields" by decide +kernel) F ⟨rfl, rfl, rfl, by decide +kernel, rfl, by decide +kernel, by decide +kernel⟩ (fun f cdv A outer s H E W I => by
  have nd : (["self"] : List Str).Nodup := by decide +kernel
  exact (xss_one (xs_ret (xm_p (xp_tup (xpl_cons (xp_fld (f := 8) (in_hK I) (by rfl) (xp_var 0 (pv 0)) (by rfl)) (xpl_cons (xp_fld (f := 9) (in_hK I) (by rfl) (xp_var 0 (pv 0)) (by rfl)) (xpl_cons (xp_fld (f := 10) (in_hK I) (by rfl) (xp_var 0 (pv 0)) (by rfl)) (xpl_cons (xp_fld (f := 11) (in_hK I) (by rfl) (xp_var 0 (pv 0)) (by rfl)) xpl_nil)))))))))

theorem ok_Channel_init {Γ : Wd} (T : Txt Γ) (cf : CF Γ.θ 18) (F : (∃ f fd, Fun Γ.K "__init__" "Channel.__init__" s_Channel_init f fd ∧ L2.Mk Γ.K (Γ.cA 18) f ∧ Γ.mg "Channel" = some (.ref (Γ.cA 18)) ∧ Binds Γ.K fd ["self", "k", "j"] []))  : MkAt Γ "Channel" 18 1 3 f_Channel_init :=
  mk_at (N := (["self", "k", "j"] : List Str)) (ps := (["self", "k", "j"] : List Str)) cf F ⟨rfl, rfl, rfl, by decide +kernel, rfl, by decide +kernel, by decide +kernel⟩ (by decide) (fun f cdv A outer s H E W I => by
  have nd : (["self", "k", "j"] : List Str).Nodup := by decide +kernel
  exact (xss_cons (xs_if (xt_not (xt_pchain of_le of_le xp_int (xp_var 1 (pv 1)) (xp_c (pe_glob (v := .int 1000) (by rfl) T.c_MOST_SIZE ⟨_, rfl⟩) fun _ _ => .int))) (xss_one xs_never) xss_nil)
    (xss_cons (xs_if (xt_not (xt_pchain of_le of_le xp_int (xp_var 2 (pv 2)) (xp_c (pe_glob (v := .int 1000) (by rfl) T.c_MOST_SIZE ⟨_, rfl⟩) fun _ _ => .int))) (xss_one xs_never) xss_nil)
    (xss_cons (xs_fld (c := 18) (i := 0) (f := 13) (in_hK I) (by rfl) (show 13 ∈ flT 18 by decide) (pv 0) (xm_val 1 (pv 1)))
    (xss_one (xs_fld (c := 18) (i := 0) (f := 14) (in_hK I) (by rfl) (show 14 ∈ flT 18 by decide) (pv 0) (xm_val 2 (pv 2))))))))

theorem ok_Channel_fields {Γ : Wd} (T : Txt Γ) (cf : CF Γ.θ 18) (F : (∃ f fd, Fun Γ.K "fields" "Channel.fields" s_Channel_fields f fd ∧ Meth Γ.K (Γ.cA 18) "fields" f ∧ Binds Γ.K fd ["self"] []))  : MeAt Γ "fields" 18 1 1 f_Channel_fields :=
  me_at (N := (["self"] : List Str)) (ps := (["self"] : List Str)) cf (show ∀ g ∈ flT 18, nmT g ≠ "fields" by decide +kernel) F ⟨rfl, rfl, rfl, by decide +kernel, rfl, by decide +kernel, by decide +kernel⟩ (fun f cdv A outer s H E W I => by
  have nd : (["self"] : List Str).Nodup := by decide +kernel
  exact (xss_one (xs_ret (xm_p (xp_tup (xpl_cons (xp_fld (f := 13) (in_hK I) (by rfl) (xp_var 0 (pv 0)) (by rfl)) (xpl_cons (xp_fld (f := 14) (in_hK I) (by rfl) (xp_var 0 (pv 0)) (by rfl)) xpl_nil)))))))

theorem ok_check_numbers {Γ : Wd} (T : Txt Γ) (F : (∃ f fd, Fun Γ.K "check_numbers" "check_numbers" s_check_numbers f fd ∧ Γ.mg "check_numbers" = some (.ref f) ∧ Binds Γ.K fd ["numbers"] []))  : FnAt Γ "check_numbers" 1 1 f_check_numbers :=
  fn_at (N := (["numbers"] : List Str)) (ps := (["numbers"] : List Str)) F ⟨rfl, rfl, rfl, by decide +kernel, rfl, by decide +kernel, by decide +kernel⟩ (fun f cdv A outer s H E W I => by
  have nd : (["numbers"] : List Str).Nodup := by decide +kernel
  exact (xss_one (xs_if (xt_not (xt_pchain of_le of_le xp_int (xp_var 0 (pv 0)) (xp_c (pe_glob (v := .int 2000000) (by rfl) T.c_MOST_NUMBERS ⟨_, rfl⟩) fun _ _ => .int))) (xss_one xs_never) xss_nil)))

theorem ok_largest_window {Γ : Wd} (T : Txt Γ) (F : (∃ f fd, Fun Γ.K "largest_window" "largest_window" s_largest_window f fd ∧ Γ.mg "largest_window" = some (.ref f) ∧ KBn Γ.K fd ["channel", "numbers", "r", "acks", "resend"] 2 ["r", "acks", "resend"] (fun us ws => us ++ ws) (fun vs zs => vs ++ zs))) (h_check_numbers : FnAt Γ "check_numbers" 1 1 f_check_numbers) (h_least_by_formula : FnAt Γ "least_by_formula" 4 2 f_least_by_formula) (h_Rule_init : MkAt Γ "Rule" 17 2 5 f_Rule_init) : FnAtK Γ "largest_window" 5 2 ["r", "acks", "resend"] f_largest_window :=
  fn_atK (N := (["channel", "numbers", "r", "acks", "resend", "low", "high", "rule", "middle"] : List Str)) (ps := (["channel", "numbers", "r", "acks", "resend"] : List Str)) F ⟨rfl, rfl, rfl, by decide +kernel, rfl, by decide +kernel, by decide +kernel⟩ rfl (fun f cdv A outer s H E W I => by
  have nd : (["channel", "numbers", "r", "acks", "resend", "low", "high", "rule", "middle"] : List Str).Nodup := by decide +kernel
  exact (xss_cons (xs_expr (yc I h_check_numbers (by decide) (by rfl) (xa_cons (xm_val 1 (pv 1)) xa_nil)))
    (xss_cons (xs_set (i := 5) nd rfl (.inl rfl) rfl (xm_p xp_int))
    (xss_cons (xs_set (i := 6) nd rfl (.inl rfl) rfl (xm_p (xp_c (pe_glob (v := .int 1000) (by rfl) T.c_MOST_SIZE ⟨_, rfl⟩) fun _ _ => .int)))
    (xss_cons (xs_set (i := 7) nd rfl (.inl rfl) rfl (ym I h_Rule_init (by decide) (by rfl) (xa_cons (xm_p xp_int) (xa_cons (xm_val 2 (pv 2)) (xa_cons (xm_val 3 (pv 3)) (xa_cons (xm_val 4 (pv 4)) xa_nil))))))
    (xss_cons (xs_while (n := 100000) I.po (xt_pcmp of_lt (xp_var 5 (pv 5)) (xp_var 6 (pv 6)) (nomark _)) (xss_cons (xs_set (i := 8) nd rfl (.inl rfl) rfl (xm_p (xp_op of_div (xp_op of_add (xp_op of_add (xp_var 5 (pv 5)) (xp_var 6 (pv 6))) xp_int) xp_int)))
    (xss_one (xs_if (xt_cmp of_le nu_le (yc I h_least_by_formula (by decide) (by rfl) (xa_cons (ym I h_Rule_init (by decide) (by rfl) (xa_cons (xm_val 8 (pv 8)) (xa_cons (xm_p (xp_fld (f := 9) (in_hK I) (by rfl) (xp_var 7 (pv 7)) (by rfl))) (xa_cons (xm_val 3 (pv 3)) (xa_cons (xm_val 4 (pv 4)) xa_nil))))) (xa_cons (xm_val 0 (pv 0)) xa_nil))) (xm_val 1 (pv 1)) (nomark _)) (xss_one (xs_set (i := 5) nd rfl (.inl rfl) rfl (xm_val 8 (pv 8)))) (xss_one (xs_set (i := 6) nd rfl (.inl rfl) rfl (xm_p (xp_op of_sub (xp_var 8 (pv 8)) xp_int))))))))
    (xss_one (xs_ret (xm_take 5 (pv 5))))))))))

theorem ok_Lifetime_init {Γ : Wd} (T : Txt Γ) (cf : CF Γ.θ 37) (F : (∃ f fd, Fun Γ.K "__init__" "Lifetime.__init__" s_Lifetime_init f fd ∧ L2.Mk Γ.K (Γ.cA 37) f ∧ Γ.mg "Lifetime" = some (.ref (Γ.cA 37)) ∧ Binds Γ.K fd ["self", "ticks", "rate"] []))  : MkAt Γ "Lifetime" 37 1 3 f_Lifetime_init :=
  mk_at (N := (["self", "ticks", "rate"] : List Str)) (ps := (["self", "ticks", "rate"] : List Str)) cf F ⟨rfl, rfl, rfl, by decide +kernel, rfl, by decide +kernel, by decide +kernel⟩ (by decide) (fun f cdv A outer s H E W I => by
  have nd : (["self", "ticks", "rate"] : List Str).Nodup := by decide +kernel
  exact (xss_cons (xs_if (xt_not (xt_pchain of_le of_le xp_int (xp_var 1 (pv 1)) (xp_cval (pe_glob (v := .ref (Γ.cA 37)) (by rfl) T.m_Lifetime rfl) T.r_Lifetime T.v_Lifetime_MOST_TICKS fun _ _ => .int))) (xss_one xs_never) xss_nil)
    (xss_cons (xs_if (xt_not (xt_pchain of_le of_le xp_int (xp_var 2 (pv 2)) (xp_cval (pe_glob (v := .ref (Γ.cA 37)) (by rfl) T.m_Lifetime rfl) T.r_Lifetime T.v_Lifetime_MOST_TICKS fun _ _ => .int))) (xss_one xs_never) xss_nil)
    (xss_cons (xs_fld (c := 37) (i := 0) (f := 48) (in_hK I) (by rfl) (show 48 ∈ flT 37 by decide) (pv 0) (xm_val 1 (pv 1)))
    (xss_one (xs_fld (c := 37) (i := 0) (f := 49) (in_hK I) (by rfl) (show 49 ∈ flT 37 by decide) (pv 0) (xm_val 2 (pv 2))))))))

theorem ok_lag {Γ : Wd} (T : Txt Γ) (F : (∃ f fd, Fun Γ.K "lag" "lag" s_lag f fd ∧ Γ.mg "lag" = some (.ref f) ∧ Binds Γ.K fd ["lifetime"] []))  : FnAt Γ "lag" 1 1 f_lag :=
  fn_at (N := (["lifetime"] : List Str)) (ps := (["lifetime"] : List Str)) F ⟨rfl, rfl, rfl, by decide +kernel, rfl, by decide +kernel, by decide +kernel⟩ (fun f cdv A outer s H E W I => by
  have nd : (["lifetime"] : List Str).Nodup := by decide +kernel
  exact (xss_one (xs_ret (xm_p (xp_op of_sub (xp_op of_mul (xp_fld (f := 49) (in_hK I) (by rfl) (xp_var 0 (pv 0)) (by rfl)) (xp_op of_add (xp_fld (f := 48) (in_hK I) (by rfl) (xp_var 0 (pv 0)) (by rfl)) xp_int)) xp_int)))))

theorem ok_lifetime_channel {Γ : Wd} (T : Txt Γ) (F : (∃ f fd, Fun Γ.K "lifetime_channel" "lifetime_channel" s_lifetime_channel f fd ∧ Γ.mg "lifetime_channel" = some (.ref f) ∧ Binds Γ.K fd ["lifetime", "j"] [])) (h_lag : FnAt Γ "lag" 1 1 f_lag) (h_Channel_init : MkAt Γ "Channel" 18 1 3 f_Channel_init) : FnAt Γ "lifetime_channel" 3 2 f_lifetime_channel :=
  fn_at (N := (["lifetime", "j"] : List Str)) (ps := (["lifetime", "j"] : List Str)) F ⟨rfl, rfl, rfl, by decide +kernel, rfl, by decide +kernel, by decide +kernel⟩ (fun f cdv A outer s H E W I => by
  have nd : (["lifetime", "j"] : List Str).Nodup := by decide +kernel
  exact (xss_one (xs_ret (ym I h_Channel_init (by decide) (by rfl) (xa_cons (yc I h_lag (by decide) (by rfl) (xa_cons (xm_val 0 (pv 0)) xa_nil)) (xa_cons (xm_val 1 (pv 1)) xa_nil))))))

theorem ok_least_for_lifetime {Γ : Wd} (T : Txt Γ) (F : (∃ f fd, Fun Γ.K "least_for_lifetime" "least_for_lifetime" s_least_for_lifetime f fd ∧ Γ.mg "least_for_lifetime" = some (.ref f) ∧ Binds Γ.K fd ["rule", "lifetime", "j"] [])) (h_least_by_formula : FnAt Γ "least_by_formula" 4 2 f_least_by_formula) (h_lifetime_channel : FnAt Γ "lifetime_channel" 3 2 f_lifetime_channel) : FnAt Γ "least_for_lifetime" 5 3 f_least_for_lifetime :=
  fn_at (N := (["rule", "lifetime", "j"] : List Str)) (ps := (["rule", "lifetime", "j"] : List Str)) F ⟨rfl, rfl, rfl, by decide +kernel, rfl, by decide +kernel, by decide +kernel⟩ (fun f cdv A outer s H E W I => by
  have nd : (["rule", "lifetime", "j"] : List Str).Nodup := by decide +kernel
  exact (xss_one (xs_ret (yc I h_least_by_formula (by decide) (by rfl) (xa_cons (xm_val 0 (pv 0)) (xa_cons (yc I h_lifetime_channel (by decide) (by rfl) (xa_cons (xm_val 1 (pv 1)) (xa_cons (xm_val 2 (pv 2)) xa_nil))) xa_nil))))))

theorem ok_longest_lifetime {Γ : Wd} (T : Txt Γ) (F : (∃ f fd, Fun Γ.K "longest_lifetime" "longest_lifetime" s_longest_lifetime f fd ∧ Γ.mg "longest_lifetime" = some (.ref f) ∧ Binds Γ.K fd ["rule", "rate", "j", "numbers"] [])) (h_check_numbers : FnAt Γ "check_numbers" 1 1 f_check_numbers) (h_least_for_lifetime : FnAt Γ "least_for_lifetime" 5 3 f_least_for_lifetime) (h_Lifetime_init : MkAt Γ "Lifetime" 37 1 3 f_Lifetime_init) : FnAt Γ "longest_lifetime" 6 4 f_longest_lifetime :=
  fn_at (N := (["rule", "rate", "j", "numbers", "low", "high", "middle"] : List Str)) (ps := (["rule", "rate", "j", "numbers"] : List Str)) F ⟨rfl, rfl, rfl, by decide +kernel, rfl, by decide +kernel, by decide +kernel⟩ (fun f cdv A outer s H E W I => by
  have nd : (["rule", "rate", "j", "numbers", "low", "high", "middle"] : List Str).Nodup := by decide +kernel
  exact (xss_cons (xs_expr (yc I h_check_numbers (by decide) (by rfl) (xa_cons (xm_val 3 (pv 3)) xa_nil)))
    (xss_cons (xs_if (xt_cmp of_lt nu_lt (xm_val 3 (pv 3)) (yc I h_least_for_lifetime (by decide) (by rfl) (xa_cons (xm_val 0 (pv 0)) (xa_cons (ym I h_Lifetime_init (by decide) (by rfl) (xa_cons (xm_p xp_int) (xa_cons (xm_val 1 (pv 1)) xa_nil))) (xa_cons (xm_val 2 (pv 2)) xa_nil)))) (nomark _)) (xss_one (xs_ret (xm_p xp_non))) xss_nil)
    (xss_cons (xs_set (i := 4) nd rfl (.inl rfl) rfl (xm_p xp_int))
    (xss_cons (xs_set (i := 5) nd rfl (.inl rfl) rfl (xm_p (xp_op of_sub (xp_op of_div (xp_op of_add (xp_c (pe_glob (v := .int 1000) (by rfl) T.c_MOST_SIZE ⟨_, rfl⟩) fun _ _ => .int) xp_int) (xp_var 1 (pv 1))) xp_int)))
    (xss_cons (xs_while (n := 100000) I.po (xt_pcmp of_lt (xp_var 4 (pv 4)) (xp_var 5 (pv 5)) (nomark _)) (xss_cons (xs_set (i := 6) nd rfl (.inl rfl) rfl (xm_p (xp_op of_div (xp_op of_add (xp_op of_add (xp_var 4 (pv 4)) (xp_var 5 (pv 5))) xp_int) xp_int)))
    (xss_one (xs_if (xt_cmp of_le nu_le (yc I h_least_for_lifetime (by decide) (by rfl) (xa_cons (xm_val 0 (pv 0)) (xa_cons (ym I h_Lifetime_init (by decide) (by rfl) (xa_cons (xm_val 6 (pv 6)) (xa_cons (xm_val 1 (pv 1)) xa_nil))) (xa_cons (xm_val 2 (pv 2)) xa_nil)))) (xm_val 3 (pv 3)) (nomark _)) (xss_one (xs_set (i := 4) nd rfl (.inl rfl) rfl (xm_val 6 (pv 6)))) (xss_one (xs_set (i := 5) nd rfl (.inl rfl) rfl (xm_p (xp_op of_sub (xp_var 6 (pv 6)) xp_int))))))))
    (xss_one (xs_ret (ym I h_Lifetime_init (by decide) (by rfl) (xa_cons (xm_val 4 (pv 4)) (xa_cons (xm_val 1 (pv 1)) xa_nil)))))))))))

theorem ok_law_cell {Γ : Wd} (T : Txt Γ) (F : (∃ f fd, Fun Γ.K "_law_cell" "_law_cell" s_law_cell f fd ∧ Γ.mg "_law_cell" = some (.ref f) ∧ Binds Γ.K fd ["script", "k"] []))  : FnAt Γ "_law_cell" 1 2 f_law_cell :=
  fn_at (N := (["script", "k"] : List Str)) (ps := (["script", "k"] : List Str)) F ⟨rfl, rfl, rfl, by decide +kernel, rfl, by decide +kernel, by decide +kernel⟩ (fun f cdv A outer s H E W I => by
  have nd : (["script", "k"] : List Str).Nodup := by decide +kernel
  exact (xss_cons (xs_if (xt_pcmp of_lt (xp_var 1 (pv 1)) (xp_b (bf_len (in_hK I)) (by rfl) T.b_len bt_len (xpl_cons (xp_var 0 (pv 0)) xpl_nil)) (nomark _)) (xss_one (xs_ret (xm_p (xp_ix (in_hK I) (xp_var 0 (pv 0)) (xp_var 1 (pv 1)))))) xss_nil)
    (xss_one (xs_ret (xm_p xp_int)))))

theorem ok_law_mix {Γ : Wd} (T : Txt Γ) (F : (∃ f fd, Fun Γ.K "_law_mix" "_law_mix" s_law_mix f fd ∧ Γ.mg "_law_mix" = some (.ref f) ∧ Binds Γ.K fd ["seed", "k"] []))  : FnAt Γ "_law_mix" 1 2 f_law_mix :=
  fn_at (N := (["seed", "k", "one", "two"] : List Str)) (ps := (["seed", "k"] : List Str)) F ⟨rfl, rfl, rfl, by decide +kernel, rfl, by decide +kernel, by decide +kernel⟩ (fun f cdv A outer s H E W I => by
  have nd : (["seed", "k", "one", "two"] : List Str).Nodup := by decide +kernel
  exact (xss_cons (xs_set (i := 2) nd rfl (.inl rfl) rfl (xm_p (xp_op of_mod (xp_ty bf_int (by rfl) T.b_int bt_int (xpl_cons (xp_op of_add (xp_op of_mul (xp_ty bf_int (by rfl) T.b_int bt_int (xpl_cons (xp_var 0 (pv 0)) xpl_nil)) xp_int) (xp_op of_mul (xp_op of_add (xp_var 1 (pv 1)) xp_int) xp_int)) xpl_nil)) xp_int)))
    (xss_cons (xs_set (i := 3) nd rfl (.inl rfl) rfl (xm_p (xp_op of_mod (xp_ty bf_int (by rfl) T.b_int bt_int (xpl_cons (xp_op of_add (xp_op of_mul (xp_var 2 (pv 2)) (xp_var 2 (pv 2))) (xp_op of_mul (xp_op of_add (xp_var 1 (pv 1)) xp_int) xp_int)) xpl_nil)) xp_int)))
    (xss_one (xs_ret (xm_p (xp_op of_div (xp_op of_mod (xp_ty bf_int (by rfl) T.b_int bt_int (xpl_cons (xp_op of_add (xp_op of_mul (xp_var 3 (pv 3)) (xp_var 3 (pv 3))) (xp_var 2 (pv 2))) xpl_nil)) xp_int) xp_int)))))))

theorem ok_law_numbers {Γ : Wd} (T : Txt Γ) (F : (∃ f fd, Fun Γ.K "_law_numbers" "_law_numbers" s_law_numbers f fd ∧ Γ.mg "_law_numbers" = some (.ref f) ∧ Binds Γ.K fd ["script", "at", "many"] [])) (h_law_cell : FnAt Γ "_law_cell" 1 2 f_law_cell) (h_law_mix : FnAt Γ "_law_mix" 1 2 f_law_mix) : FnAt Γ "_law_numbers" 2 3 f_law_numbers :=
  fn_at (N := (["script", "at", "many", "row", "cell", "k"] : List Str)) (ps := (["script", "at", "many"] : List Str)) F ⟨rfl, rfl, rfl, by decide +kernel, rfl, by decide +kernel, by decide +kernel⟩ (fun f cdv A outer s H E W I => by
  have nd : (["script", "at", "many", "row", "cell", "k"] : List Str).Nodup := by decide +kernel
  exact (xss_cons (xs_set (i := 3) nd rfl (.inl rfl) rfl (xm_lst xa_nil))
    (xss_cons (xs_set (i := 4) nd rfl (.inl rfl) rfl (xm_b bf_abs (by rfl) T.b_abs bt_abs (xa_cons (yc I h_law_cell (by decide) (by rfl) (xa_cons (xm_val 0 (pv 0)) (xa_cons (xm_val 1 (pv 1)) xa_nil))) xa_nil)))
    (xss_cons (xs_if (xt_pcmp of_ge (xp_var 4 (pv 4)) (xp_op of_pow xp_int xp_int) (nomark _)) (xss_one (xs_forR1 I.po rfl (by rfl) T.b_range (xa_cons (xm_val 2 (pv 2)) xa_nil) (xg_name (i := 5) nd rfl (.inl rfl) rfl) (xss_one (xs_if (xt_pcmp of_gt (xp_var 4 (pv 4)) xp_int (nomark _)) (xss_cons (xs_expr (xm_app (i := 3) (in_hK I) (pv 3) (xm_p (xp_op of_mod (xp_ty bf_int (by rfl) T.b_int bt_int (xpl_cons (xp_var 4 (pv 4)) xpl_nil)) xp_int))))
    (xss_one (xs_set (i := 4) nd rfl (.inl rfl) rfl (xm_p (xp_op of_div (xp_ty bf_int (by rfl) T.b_int bt_int (xpl_cons (xp_var 4 (pv 4)) xpl_nil)) xp_int))))) xss_nil)))) xss_nil)
    (xss_cons (xs_forR2 I.po rfl (by rfl) T.b_range (xa_cons (xm_p (xp_b (bf_len (in_hK I)) (by rfl) T.b_len bt_len (xpl_cons (xp_var 3 (pv 3)) xpl_nil))) (xa_cons (xm_val 2 (pv 2)) xa_nil)) (xg_name (i := 5) nd rfl (.inl rfl) rfl) (xss_one (xs_expr (xm_app (i := 3) (in_hK I) (pv 3) (yc I h_law_mix (by decide) (by rfl) (xa_cons (yc I h_law_cell (by decide) (by rfl) (xa_cons (xm_val 0 (pv 0)) (xa_cons (xm_p (xp_op of_mod (xp_op of_add (xp_var 1 (pv 1)) (xp_var 5 (pv 5))) (xp_b (bf_max rfl) (by rfl) T.b_max bt_max (xpl_cons xp_int (xpl_cons (xp_b (bf_len (in_hK I)) (by rfl) T.b_len bt_len (xpl_cons (xp_var 0 (pv 0)) xpl_nil)) xpl_nil))))) xa_nil))) (xa_cons (xm_p (xp_op of_add (xp_var 1 (pv 1)) (xp_var 5 (pv 5)))) xa_nil)))))))
    (xss_one (xs_ret (xm_take 3 (pv 3)))))))))

theorem ok_law_like_step {Γ : Wd} (T : Txt Γ) (F : (∃ f fd, Fun Γ.K "_law_like" "_law_like" s_law_like f fd ∧ Γ.mg "_law_like" = some (.ref f) ∧ Binds Γ.K fd ["told", "due"] []))  {k : Nat} {Fr : Fn} (h_law_like : FnAt Γ "_law_like" k 2 Fr) : FnAt Γ "_law_like" (k + 1) 2 (semG 3 (b_law_like Fr)) :=
  fn_at (N := (["told", "due", "n"] : List Str)) (ps := (["told", "due"] : List Str)) F ⟨rfl, rfl, rfl, by decide +kernel, rfl, by decide +kernel, by decide +kernel⟩ (fun f cdv A outer s H E W I => by
  have nd : (["told", "due", "n"] : List Str).Nodup := by decide +kernel
  exact (xss_cons (xs_if (xt_pcmp of_isN (xp_var 1 (pv 1)) xp_non (nomark _)) (xss_one (xs_ret (xm_p (xp_cmp of_isN (xp_var 0 (pv 0)) xp_non (nomark _))))) xss_nil)
    (xss_cons (xs_if (PW.pt (xw_or (xt_val (xm_p (xp_isT (in_hK I) (by rfl) T.b_isinstance (xp_var 1 (pv 1)) (pe_bltn (v := .ty "bool") (by rfl) T.b_bool bt_bool rfl)))) (xw_or1 (xt_val (xm_p (xp_isT (in_hK I) (by rfl) T.b_isinstance (xp_var 0 (pv 0)) (pe_bltn (v := .ty "bool") (by rfl) T.b_bool bt_bool rfl))))))) (xss_one (xs_ret (xm_and (xm_p (xp_isT (in_hK I) (by rfl) T.b_isinstance (xp_var 1 (pv 1)) (pe_bltn (v := .ty "bool") (by rfl) T.b_bool bt_bool rfl))) (xm_and (xm_p (xp_isT (in_hK I) (by rfl) T.b_isinstance (xp_var 0 (pv 0)) (pe_bltn (v := .ty "bool") (by rfl) T.b_bool bt_bool rfl))) (xm_one (xm_p (xp_cmp of_eq (xp_var 0 (pv 0)) (xp_var 1 (pv 1)) (nomark _)))))))) xss_nil)
    (xss_cons (xs_if (PW.pt (xw_or (xt_val (xm_p (xp_isT (in_hK I) (by rfl) T.b_isinstance (xp_var 1 (pv 1)) (pe_bltn (v := .ty "str") (by rfl) T.b_str bt_str rfl)))) (xw_or1 (xt_val (xm_p (xp_isT (in_hK I) (by rfl) T.b_isinstance (xp_var 1 (pv 1)) (pe_bltn (v := .ty "int") (by rfl) T.b_int bt_int rfl))))))) (xss_one (xs_ret (xm_and (xm_p (xp_cmp of_eq (xp_isT (in_hK I) (by rfl) T.b_isinstance (xp_var 0 (pv 0)) (pe_bltn (v := .ty "str") (by rfl) T.b_str bt_str rfl)) (xp_isT (in_hK I) (by rfl) T.b_isinstance (xp_var 1 (pv 1)) (pe_bltn (v := .ty "str") (by rfl) T.b_str bt_str rfl)) (nomark _))) (xm_and (xm_p (xp_isT2 (in_hK I) (by rfl) T.b_isinstance (xp_var 0 (pv 0)) (pe_bltn (v := .ty "str") (by rfl) T.b_str bt_str rfl) (pe_bltn (v := .ty "int") (by rfl) T.b_int bt_int rfl))) (xm_one (xm_p (xp_cmp of_eq (xp_var 0 (pv 0)) (xp_var 1 (pv 1)) (nomark _)))))))) xss_nil)
    (xss_cons (xs_if (PW.pt (xw_or (xt_pcmp of_ne (xp_isT (in_hK I) (by rfl) T.b_isinstance (xp_var 1 (pv 1)) (pe_bltn (v := .ty "list") (by rfl) T.b_list bt_list rfl)) (xp_isT (in_hK I) (by rfl) T.b_isinstance (xp_var 0 (pv 0)) (pe_bltn (v := .ty "list") (by rfl) T.b_list bt_list rfl)) (nomark _)) (xw_or1 (xt_pcmp of_ne (xp_isT (in_hK I) (by rfl) T.b_isinstance (xp_var 1 (pv 1)) (pe_bltn (v := .ty "tuple") (by rfl) T.b_tuple bt_tuple rfl)) (xp_isT (in_hK I) (by rfl) T.b_isinstance (xp_var 0 (pv 0)) (pe_bltn (v := .ty "tuple") (by rfl) T.b_tuple bt_tuple rfl)) (nomark _))))) (xss_one (xs_ret (xm_p xp_bl))) xss_nil)
    (xss_cons (xs_if (PW.pt (xw_or (xt_not (xt_val (xm_p (xp_isT2 (in_hK I) (by rfl) T.b_isinstance (xp_var 0 (pv 0)) (pe_bltn (v := .ty "list") (by rfl) T.b_list bt_list rfl) (pe_bltn (v := .ty "tuple") (by rfl) T.b_tuple bt_tuple rfl))))) (xw_or1 (xt_pcmp of_ne (xp_b (bf_len (in_hK I)) (by rfl) T.b_len bt_len (xpl_cons (xp_var 0 (pv 0)) xpl_nil)) (xp_b (bf_len (in_hK I)) (by rfl) T.b_len bt_len (xpl_cons (xp_var 1 (pv 1)) xpl_nil)) (nomark _))))) (xss_one (xs_ret (xm_p xp_bl))) xss_nil)
    (xss_cons (xs_forR1 I.po rfl (by rfl) T.b_range (xa_cons (xm_p (xp_b (bf_len (in_hK I)) (by rfl) T.b_len bt_len (xpl_cons (xp_var 1 (pv 1)) xpl_nil))) xa_nil) (xg_name (i := 2) nd rfl (.inl rfl) rfl) (xss_one (xs_if (xt_not (xt_val (yc I h_law_like (Nat.le_refl _) (by rfl) (xa_cons (xm_p (xp_ix (in_hK I) (xp_var 0 (pv 0)) (xp_var 2 (pv 2)))) (xa_cons (xm_p (xp_ix (in_hK I) (xp_var 1 (pv 1)) (xp_var 2 (pv 2)))) xa_nil))))) (xss_one (xs_ret (xm_p xp_bl))) xss_nil)))
    (xss_one (xs_ret (xm_p xp_bl))))))))))
theorem ok_law_like {Γ : Wd} (T : Txt Γ) (F : (∃ f fd, Fun Γ.K "_law_like" "_law_like" s_law_like f fd ∧ Γ.mg "_law_like" = some (.ref f) ∧ Binds Γ.K fd ["told", "due"] []))  : ∀ n, FnAt Γ "_law_like" n 2 (f_law_likeN n)
  | 0 => fn_none F rfl
  | n + 1 => ok_law_like_step T F  (ok_law_like T F  n)

theorem ok_law_least {Γ : Wd} (T : Txt Γ) (F : (∃ f fd, Fun Γ.K "_law_least" "_law_least" s_law_least f fd ∧ Γ.mg "_law_least" = some (.ref f) ∧ Binds Γ.K fd ["w", "room", "group", "backs", "again", "k", "j"] []))  : FnAt Γ "_law_least" 1 7 f_law_least :=
  fn_at (N := (["w", "room", "group", "backs", "again", "k", "j", "small", "far", "growth_v"] : List Str)) (ps := (["w", "room", "group", "backs", "again", "k", "j"] : List Str)) F ⟨rfl, rfl, rfl, by decide +kernel, rfl, by decide +kernel, by decide +kernel⟩ (fun f cdv A outer s H E W I => by
  have nd : (["w", "room", "group", "backs", "again", "k", "j", "small", "far", "growth_v"] : List Str).Nodup := by decide +kernel
  exact (xss_cons (xs_set (i := 7) nd rfl (.inl rfl) rfl (xm_p (xp_b (bf_min rfl) (by rfl) T.b_min bt_min (xpl_cons (xp_var 1 (pv 1)) (xpl_cons (xp_var 0 (pv 0)) xpl_nil)))))
    (xss_cons (xs_set (i := 8) nd rfl (.inl rfl) rfl (xm_val 0 (pv 0)))
    (xss_cons (xs_if (PW.pt (xw_or (xt_pcmp of_eq (xp_var 4 (pv 4)) xp_str (nomark _)) (xw_or1 (PW.pt (xw_and (xt_pcmp of_eq (xp_var 4 (pv 4)) xp_str (nomark _)) (xw_and1 (xt_pcmp of_gt (xp_var 0 (pv 0)) xp_int (nomark _)))))))) (xss_cons (xs_set (i := 7) nd rfl (.inl rfl) rfl (xm_p (xp_b (bf_min rfl) (by rfl) T.b_min bt_min (xpl_cons (xp_var 7 (pv 7)) (xpl_cons (xp_op of_add (xp_var 5 (pv 5)) xp_int) xpl_nil)))))
    (xss_one (xs_set (i := 8) nd rfl (.inl rfl) rfl (xm_p xp_int)))) xss_nil)
    (xss_cons (xs_set (i := 9) nd rfl (.inl rfl) rfl (xm_p xp_int))
    (xss_cons (xs_if (PW.pt (xw_and (xt_pcmp of_gt (xp_var 6 (pv 6)) xp_int (nomark _)) (xw_and1 (xt_pcmp of_gt (xp_var 2 (pv 2)) xp_int (nomark _))))) (xss_one (xs_set (i := 9) nd rfl (.inl rfl) rfl (xm_p (xp_op of_add (xp_b (bf_min rfl) (by rfl) T.b_min bt_min (xpl_cons (xp_op of_add (xp_op of_sub (xp_var 7 (pv 7)) xp_int) (xp_var 2 (pv 2))) (xpl_cons (xp_var 0 (pv 0)) xpl_nil))) (xp_op of_mul (xp_op of_sub (xp_var 6 (pv 6)) xp_int) (xp_b (bf_min rfl) (by rfl) T.b_min bt_min (xpl_cons (xp_var 2 (pv 2)) (xpl_cons (xp_var 0 (pv 0)) xpl_nil)))))))) (xss_one (xs_if (xt_pcmp of_eq (xp_var 3 (pv 3)) xp_str (nomark _)) (xss_one (xs_set (i := 9) nd rfl (.inl rfl) rfl (xm_p (xp_op of_mul (xp_var 6 (pv 6)) (xp_var 0 (pv 0)))))) (xss_one (xs_if (xt_pcmp of_eq (xp_var 2 (pv 2)) xp_int (nomark _)) (xss_one (xs_set (i := 9) nd rfl (.inl rfl) rfl (xm_p (xp_op of_mul (xp_var 6 (pv 6)) (xp_var 7 (pv 7)))))) xss_nil)))))
    (xss_one (xs_ret (xm_p (xp_b (bf_max rfl) (by rfl) T.b_max bt_max (xpl_cons (xp_op of_add (xp_op of_add (xp_var 8 (pv 8)) (xp_var 1 (pv 1))) (xp_var 5 (pv 5))) (xpl_cons (xp_op of_add (xp_op of_add (xp_var 0 (pv 0)) xp_int) (xp_var 9 (pv 9))) xpl_nil))))))))))))

theorem ok_law_window {Γ : Wd} (T : Txt Γ) (F : (∃ f fd, Fun Γ.K "_law_window" "_law_window" s_law_window f fd ∧ Γ.mg "_law_window" = some (.ref f) ∧ Binds Γ.K fd ["room", "group", "kind", "again", "k", "j", "numbers"] [])) (h_law_least : FnAt Γ "_law_least" 1 7 f_law_least) : FnAt Γ "_law_window" 2 7 f_law_window :=
  fn_at (N := (["room", "group", "kind", "again", "k", "j", "numbers", "low", "high", "n", "middle"] : List Str)) (ps := (["room", "group", "kind", "again", "k", "j", "numbers"] : List Str)) F ⟨rfl, rfl, rfl, by decide +kernel, rfl, by decide +kernel, by decide +kernel⟩ (fun f cdv A outer s H E W I => by
  have nd : (["room", "group", "kind", "again", "k", "j", "numbers", "low", "high", "n", "middle"] : List Str).Nodup := by decide +kernel
  exact (xss_cons (xs_set (i := 7) nd rfl (.inl rfl) rfl (xm_p xp_int))
    (xss_cons (xs_set (i := 8) nd rfl (.inl rfl) rfl (xm_p xp_int))
    (xss_cons (xs_forR1 I.po rfl (by rfl) T.b_range (xa_cons (xm_p xp_int) xa_nil) (xg_name (i := 9) nd rfl (.inl rfl) rfl) (xss_one (xs_if (xt_pcmp of_lt (xp_var 7 (pv 7)) (xp_var 8 (pv 8)) (nomark _)) (xss_cons (xs_set (i := 10) nd rfl (.inl rfl) rfl (xm_p (xp_op of_div (xp_op of_add (xp_op of_add (xp_var 7 (pv 7)) (xp_var 8 (pv 8))) xp_int) xp_int)))
    (xss_one (xs_if (xt_cmp of_le nu_le (yc I h_law_least (by decide) (by rfl) (xa_cons (xm_val 10 (pv 10)) (xa_cons (xm_val 0 (pv 0)) (xa_cons (xm_val 1 (pv 1)) (xa_cons (xm_val 2 (pv 2)) (xa_cons (xm_val 3 (pv 3)) (xa_cons (xm_val 4 (pv 4)) (xa_cons (xm_val 5 (pv 5)) xa_nil)))))))) (xm_val 6 (pv 6)) (nomark _)) (xss_one (xs_set (i := 7) nd rfl (.inl rfl) rfl (xm_val 10 (pv 10)))) (xss_one (xs_set (i := 8) nd rfl (.inl rfl) rfl (xm_p (xp_op of_sub (xp_var 10 (pv 10)) xp_int))))))) xss_nil)))
    (xss_one (xs_ret (xm_take 7 (pv 7))))))))

theorem ok_law_longest {Γ : Wd} (T : Txt Γ) (F : (∃ f fd, Fun Γ.K "_law_longest" "_law_longest" s_law_longest f fd ∧ Γ.mg "_law_longest" = some (.ref f) ∧ Binds Γ.K fd ["size", "room", "group", "kind", "again", "rate", "j", "numbers"] [])) (h_law_least : FnAt Γ "_law_least" 1 7 f_law_least) : FnAt Γ "_law_longest" 2 8 f_law_longest :=
  fn_at (N := (["size", "room", "group", "kind", "again", "rate", "j", "numbers", "low", "high", "n", "middle"] : List Str)) (ps := (["size", "room", "group", "kind", "again", "rate", "j", "numbers"] : List Str)) F ⟨rfl, rfl, rfl, by decide +kernel, rfl, by decide +kernel, by decide +kernel⟩ (fun f cdv A outer s H E W I => by
  have nd : (["size", "room", "group", "kind", "again", "rate", "j", "numbers", "low", "high", "n", "middle"] : List Str).Nodup := by decide +kernel
  exact (xss_cons (xs_set (i := 8) nd rfl (.inl rfl) rfl (xm_p (xp_neg xp_int)))
    (xss_cons (xs_set (i := 9) nd rfl (.inl rfl) rfl (xm_p (xp_op of_sub (xp_op of_div xp_int (xp_var 5 (pv 5))) xp_int)))
    (xss_cons (xs_forR1 I.po rfl (by rfl) T.b_range (xa_cons (xm_p xp_int) xa_nil) (xg_name (i := 10) nd rfl (.inl rfl) rfl) (xss_one (xs_if (xt_pcmp of_lt (xp_var 8 (pv 8)) (xp_var 9 (pv 9)) (nomark _)) (xss_cons (xs_set (i := 11) nd rfl (.inl rfl) rfl (xm_p (xp_op of_div (xp_op of_add (xp_op of_add (xp_var 8 (pv 8)) (xp_var 9 (pv 9))) xp_int) xp_int)))
    (xss_one (xs_if (xt_cmp of_le nu_le (yc I h_law_least (by decide) (by rfl) (xa_cons (xm_val 0 (pv 0)) (xa_cons (xm_val 1 (pv 1)) (xa_cons (xm_val 2 (pv 2)) (xa_cons (xm_val 3 (pv 3)) (xa_cons (xm_val 4 (pv 4)) (xa_cons (xm_p (xp_op of_sub (xp_op of_mul (xp_var 5 (pv 5)) (xp_op of_add (xp_var 11 (pv 11)) xp_int)) xp_int)) (xa_cons (xm_val 6 (pv 6)) xa_nil)))))))) (xm_val 7 (pv 7)) (nomark _)) (xss_one (xs_set (i := 8) nd rfl (.inl rfl) rfl (xm_val 11 (pv 11)))) (xss_one (xs_set (i := 9) nd rfl (.inl rfl) rfl (xm_p (xp_op of_sub (xp_var 11 (pv 11)) xp_int))))))) xss_nil)))
    (xss_one (xs_ret (xm_take 8 (pv 8))))))))

theorem ok_law_side {Γ : Wd} (T : Txt Γ) (F : (∃ f fd, Fun Γ.K "_law_side" "_law_side" s_law_side f fd ∧ Γ.mg "_law_side" = some (.ref f) ∧ Binds Γ.K fd ["size", "drawn", "ticks", "rate", "j", "numbers", "fits"] [])) (h_law_least : FnAt Γ "_law_least" 1 7 f_law_least) (h_law_like : FnAt Γ "_law_like" 6 2 f_law_like) (h_law_longest : FnAt Γ "_law_longest" 2 8 f_law_longest) (h_least_for_lifetime : FnAt Γ "least_for_lifetime" 5 3 f_least_for_lifetime) (h_longest_lifetime : FnAt Γ "longest_lifetime" 6 4 f_longest_lifetime) (h_Lifetime_init : MkAt Γ "Lifetime" 37 1 3 f_Lifetime_init) (h_Rule_init : MkAt Γ "Rule" 17 2 5 f_Rule_init) : FnAt Γ "_law_side" 7 7 f_law_side :=
  fn_at (N := (["size", "drawn", "ticks", "rate", "j", "numbers", "fits", "rule", "least", "longest", "told", "room", "group", "kind", "again"] : List Str)) (ps := (["size", "drawn", "ticks", "rate", "j", "numbers", "fits"] : List Str)) F ⟨rfl, rfl, rfl, by decide +kernel, rfl, by decide +kernel, by decide +kernel⟩ (fun f cdv A outer s H E W I => by
  have nd : (["size", "drawn", "ticks", "rate", "j", "numbers", "fits", "rule", "least", "longest", "told", "room", "group", "kind", "again"] : List Str).Nodup := by decide +kernel
  exact (xss_cons (xs_asg (xm_val 1 (pv 1)) (xg_tup (in_hK I) rfl (xgs_cons (xg_name (i := 11) nd rfl (.inl rfl) rfl) (xgs_cons (xg_name (i := 12) nd rfl (.inl rfl) rfl) (xgs_cons (xg_name (i := 13) nd rfl (.inl rfl) rfl) (xgs_cons (xg_name (i := 14) nd rfl (.inl rfl) rfl) xgs_nil)))) rfl))
    (xss_cons (xs_set (i := 7) nd rfl (.inl rfl) rfl (ym I h_Rule_init (by decide) (by rfl) (xa_cons (xm_val 0 (pv 0)) (xa_cons (xm_val 11 (pv 11)) (xa_cons (xm_val 13 (pv 13)) (xa_cons (xm_val 14 (pv 14)) xa_nil))))))
    (xss_cons (xs_set (i := 8) nd rfl (.inl rfl) rfl (yc I h_law_least (by decide) (by rfl) (xa_cons (xm_val 0 (pv 0)) (xa_cons (xm_val 11 (pv 11)) (xa_cons (xm_val 12 (pv 12)) (xa_cons (xm_val 13 (pv 13)) (xa_cons (xm_val 14 (pv 14)) (xa_cons (xm_p (xp_op of_sub (xp_op of_mul (xp_var 3 (pv 3)) (xp_op of_add (xp_var 2 (pv 2)) xp_int)) xp_int)) (xa_cons (xm_val 4 (pv 4)) xa_nil)))))))))
    (xss_cons (xs_if (PW.pt (xw_or (xt_not (xt_val (yc I h_law_like (by decide) (by rfl) (xa_cons (yc I h_least_for_lifetime (by decide) (by rfl) (xa_cons (xm_val 7 (pv 7)) (xa_cons (ym I h_Lifetime_init (by decide) (by rfl) (xa_cons (xm_val 2 (pv 2)) (xa_cons (xm_val 3 (pv 3)) xa_nil))) (xa_cons (xm_val 4 (pv 4)) xa_nil)))) (xa_cons (xm_val 8 (pv 8)) xa_nil))))) (xw_or1 (xt_pcmp of_ne (xp_cmp of_le (xp_var 8 (pv 8)) (xp_var 5 (pv 5)) (nomark _)) (xp_var 6 (pv 6)) (nomark _))))) (xss_one (xs_ret (xm_p xp_bl))) xss_nil)
    (xss_cons (xs_set (i := 9) nd rfl (.inl rfl) rfl (yc I h_law_longest (by decide) (by rfl) (xa_cons (xm_val 0 (pv 0)) (xa_cons (xm_val 11 (pv 11)) (xa_cons (xm_val 12 (pv 12)) (xa_cons (xm_val 13 (pv 13)) (xa_cons (xm_val 14 (pv 14)) (xa_cons (xm_val 3 (pv 3)) (xa_cons (xm_val 4 (pv 4)) (xa_cons (xm_val 5 (pv 5)) xa_nil))))))))))
    (xss_cons (xs_set (i := 10) nd rfl (.inl rfl) rfl (yc I h_longest_lifetime (by decide) (by rfl) (xa_cons (xm_val 7 (pv 7)) (xa_cons (xm_val 3 (pv 3)) (xa_cons (xm_val 4 (pv 4)) (xa_cons (xm_val 5 (pv 5)) xa_nil))))))
    (xss_cons (xs_if (xt_pcmp of_lt (xp_var 9 (pv 9)) xp_int (nomark _)) (xss_one (xs_ret (xm_and (xm_p (xp_cmp of_isN (xp_var 10 (pv 10)) xp_non (nomark _))) (xm_one (xm_not (xm_val 6 (pv 6))))))) xss_nil)
    (xss_cons (xs_if (PW.pt (xw_or (xt_not (xt_val (xm_p (xp_isO (in_hK I) (by rfl) T.b_isinstance T.i_Lifetime T.t_Lifetime (xp_var 10 (pv 10)) (pe_glob (v := .ref (Γ.cA 37)) (by rfl) T.m_Lifetime rfl))))) (xw_or1 (xt_not (xt_val (yc I h_law_like (by decide) (by rfl) (xa_cons (xm_p (xp_tup (xpl_cons (xp_fld (f := 48) (in_hK I) (by rfl) (xp_var 10 (pv 10)) (by rfl)) (xpl_cons (xp_fld (f := 49) (in_hK I) (by rfl) (xp_var 10 (pv 10)) (by rfl)) xpl_nil)))) (xa_cons (xm_p (xp_tup (xpl_cons (xp_var 9 (pv 9)) (xpl_cons (xp_var 3 (pv 3)) xpl_nil)))) xa_nil)))))))) (xss_one (xs_ret (xm_p xp_bl))) xss_nil)
    (xss_one (xs_ret (xm_p (xp_cmp of_eq (xp_cmp of_ge (xp_var 9 (pv 9)) (xp_var 2 (pv 2)) (nomark _)) (xp_var 6 (pv 6)) (nomark _))))))))))))))

theorem ok_law_rule_drawn {Γ : Wd} (T : Txt Γ) (F : (∃ f fd, Fun Γ.K "_law_rule_drawn" "_law_rule_drawn" s_law_rule_drawn f fd ∧ Γ.mg "_law_rule_drawn" = some (.ref f) ∧ Binds Γ.K fd ["row"] []))  : FnAt Γ "_law_rule_drawn" 1 1 f_law_rule_drawn :=
  fn_at (N := (["row", "room", "way", "group", "kind"] : List Str)) (ps := (["row"] : List Str)) F ⟨rfl, rfl, rfl, by decide +kernel, rfl, by decide +kernel, by decide +kernel⟩ (fun f cdv A outer s H E W I => by
  have nd : (["row", "room", "way", "group", "kind"] : List Str).Nodup := by decide +kernel
  exact (xss_cons (xs_set (i := 1) nd rfl (.inl rfl) rfl (xm_p (xp_op of_add xp_int (xp_op of_mod (xp_ix (in_hK I) (xp_var 0 (pv 0)) xp_int) xp_int))))
    (xss_cons (xs_if (xt_pcmp of_eq (xp_op of_mod (xp_ix (in_hK I) (xp_var 0 (pv 0)) xp_int) xp_int) xp_int (nomark _)) (xss_one (xs_set (i := 1) nd rfl (.inl rfl) rfl (xm_p (xp_op of_add xp_int (xp_op of_mod (xp_ix (in_hK I) (xp_var 0 (pv 0)) xp_int) xp_int))))) xss_nil)
    (xss_cons (xs_set (i := 2) nd rfl (.inl rfl) rfl (xm_p (xp_op of_mod (xp_ix (in_hK I) (xp_var 0 (pv 0)) xp_int) xp_int)))
    (xss_cons (xs_set (i := 3) nd rfl (.inl rfl) rfl (xm_p (xp_ix (in_hK I) (xp_lst (xpl_cons xp_int (xpl_cons (xp_op of_add xp_int (xp_op of_mod (xp_ix (in_hK I) (xp_var 0 (pv 0)) xp_int) xp_int)) (xpl_cons xp_int (xpl_cons xp_int (xpl_cons xp_int (xpl_cons (xp_op of_add xp_int (xp_op of_mod (xp_ix (in_hK I) (xp_var 0 (pv 0)) xp_int) xp_int)) xpl_nil))))))) (xp_var 2 (pv 2)))))
    (xss_cons (xs_set (i := 4) nd rfl (.inl rfl) rfl (xm_p (xp_ix (in_hK I) (xp_lst (xpl_cons xp_str (xpl_cons (xp_op of_add xp_str (xp_ty bf_str (by rfl) T.b_str bt_str (xpl_cons (xp_var 3 (pv 3)) xpl_nil))) (xpl_cons xp_str (xpl_cons xp_str (xpl_cons xp_str (xpl_cons (xp_op of_add xp_str (xp_ty bf_str (by rfl) T.b_str bt_str (xpl_cons (xp_var 3 (pv 3)) xpl_nil))) xpl_nil))))))) (xp_var 2 (pv 2)))))
    (xss_one (xs_ret (xm_p (xp_tup (xpl_cons (xp_var 1 (pv 1)) (xpl_cons (xp_var 3 (pv 3)) (xpl_cons (xp_var 4 (pv 4)) (xpl_cons (xp_ix (in_hK I) (xp_lst (xpl_cons xp_str (xpl_cons xp_str (xpl_cons xp_str (xpl_cons xp_str xpl_nil))))) (xp_op of_mod (xp_ix (in_hK I) (xp_var 0 (pv 0)) xp_int) xp_int)) xpl_nil))))))))))))))

theorem ok_law_life_drawn {Γ : Wd} (T : Txt Γ) (F : (∃ f fd, Fun Γ.K "_law_life_drawn" "_law_life_drawn" s_law_life_drawn f fd ∧ Γ.mg "_law_life_drawn" = some (.ref f) ∧ Binds Γ.K fd ["row"] []))  : FnAt Γ "_law_life_drawn" 1 1 f_law_life_drawn :=
  fn_at (N := (["row", "rate", "most", "ticks"] : List Str)) (ps := (["row"] : List Str)) F ⟨rfl, rfl, rfl, by decide +kernel, rfl, by decide +kernel, by decide +kernel⟩ (fun f cdv A outer s H E W I => by
  have nd : (["row", "rate", "most", "ticks"] : List Str).Nodup := by decide +kernel
  exact (xss_cons (xs_set (i := 1) nd rfl (.inl rfl) rfl (xm_p (xp_op of_add xp_int (xp_op of_mod (xp_ix (in_hK I) (xp_var 0 (pv 0)) xp_int) xp_int))))
    (xss_cons (xs_if (xt_pcmp of_eq (xp_op of_mod (xp_ix (in_hK I) (xp_var 0 (pv 0)) xp_int) xp_int) xp_int (nomark _)) (xss_one (xs_set (i := 1) nd rfl (.inl rfl) rfl (xm_p (xp_op of_add xp_int (xp_op of_mod (xp_ix (in_hK I) (xp_var 0 (pv 0)) xp_int) xp_int))))) xss_nil)
    (xss_cons (xs_if (xt_pcmp of_eq (xp_op of_mod (xp_ix (in_hK I) (xp_var 0 (pv 0)) xp_int) xp_int) xp_int (nomark _)) (xss_one (xs_set (i := 1) nd rfl (.inl rfl) rfl (xm_p (xp_ix (in_hK I) (xp_lst (xpl_cons xp_int (xpl_cons xp_int (xpl_cons xp_int (xpl_cons xp_int (xpl_cons xp_int (xpl_cons xp_int (xpl_cons xp_int xpl_nil)))))))) (xp_op of_mod (xp_ix (in_hK I) (xp_var 0 (pv 0)) xp_int) xp_int))))) xss_nil)
    (xss_cons (xs_set (i := 2) nd rfl (.inl rfl) rfl (xm_p (xp_op of_sub (xp_op of_div xp_int (xp_var 1 (pv 1))) xp_int)))
    (xss_cons (xs_set (i := 3) nd rfl (.inl rfl) rfl (xm_p (xp_op of_mod (xp_ix (in_hK I) (xp_var 0 (pv 0)) xp_int) (xp_op of_add (xp_b (bf_min rfl) (by rfl) T.b_min bt_min (xpl_cons (xp_var 2 (pv 2)) (xpl_cons xp_int xpl_nil))) xp_int))))
    (xss_cons (xs_if (xt_pcmp of_eq (xp_op of_mod (xp_ix (in_hK I) (xp_var 0 (pv 0)) xp_int) xp_int) xp_int (nomark _)) (xss_one (xs_set (i := 3) nd rfl (.inl rfl) rfl (xm_p (xp_op of_mod (xp_ix (in_hK I) (xp_var 0 (pv 0)) xp_int) (xp_op of_add (xp_var 2 (pv 2)) xp_int))))) xss_nil)
    (xss_cons (xs_if (xt_pcmp of_eq (xp_op of_mod (xp_ix (in_hK I) (xp_var 0 (pv 0)) xp_int) xp_int) xp_int (nomark _)) (xss_one (xs_set (i := 3) nd rfl (.inl rfl) rfl (xm_val 2 (pv 2)))) xss_nil)
    (xss_one (xs_ret (xm_p (xp_tup (xpl_cons (xp_var 3 (pv 3)) (xpl_cons (xp_var 1 (pv 1)) xpl_nil))))))))))))))

theorem ok_law {Γ : Wd} (T : Txt Γ) {f : Addr} {fd : FuncData} (F : Fun Γ.K "law" "law" s_law f fd) (h_law_least : FnAt Γ "_law_least" 1 7 f_law_least) (h_law_life_drawn : FnAt Γ "_law_life_drawn" 1 1 f_law_life_drawn) (h_law_like : FnAt Γ "_law_like" 6 2 f_law_like) (h_law_numbers : FnAt Γ "_law_numbers" 2 3 f_law_numbers) (h_law_rule_drawn : FnAt Γ "_law_rule_drawn" 1 1 f_law_rule_drawn) (h_law_side : FnAt Γ "_law_side" 7 7 f_law_side) (h_law_window : FnAt Γ "_law_window" 2 7 f_law_window) (h_lag : FnAt Γ "lag" 1 1 f_lag) (h_largest_window : FnAtK Γ "largest_window" 5 2 ["r", "acks", "resend"] f_largest_window) (h_lifetime_channel : FnAt Γ "lifetime_channel" 3 2 f_lifetime_channel) (h_Lifetime_init : MkAt Γ "Lifetime" 37 1 3 f_Lifetime_init) (h_Channel_fields : MeAt Γ "fields" 18 1 1 f_Channel_fields) : FnOk Γ.P Γ.w Γ.K Γ.mg Γ.base (L2.CX Γ.P Γ.w) 8 f fd (["script"] : List Str) (spG Γ.θ [] 1 f_law) :=
  fn_raw (N := (["script", "row", "drawn", "j", "size", "late", "numbers", "lifetime", "channel", "due", "room", "group", "kind", "again", "ticks", "rate"] : List Str)) (ps := (["script"] : List Str)) F ⟨rfl, rfl, rfl, by decide +kernel, rfl, by decide +kernel, by decide +kernel⟩ (fun f cdv A outer s H E W I => by
  have nd : (["script", "row", "drawn", "j", "size", "late", "numbers", "lifetime", "channel", "due", "room", "group", "kind", "again", "ticks", "rate"] : List Str).Nodup := by decide +kernel
  exact (xss_cons (xs_set (i := 1) nd rfl (.inl rfl) rfl (yc I h_law_numbers (by decide) (by rfl) (xa_cons (xm_val 0 (pv 0)) (xa_cons (xm_p xp_int) (xa_cons (xm_p xp_int) xa_nil)))))
    (xss_cons (xs_set (i := 2) nd rfl (.inl rfl) rfl (yc I h_law_rule_drawn (by decide) (by rfl) (xa_cons (xm_val 1 (pv 1)) xa_nil)))
    (xss_cons (xs_asg (xm_val 2 (pv 2)) (xg_tup (in_hK I) rfl (xgs_cons (xg_name (i := 10) nd rfl (.inl rfl) rfl) (xgs_cons (xg_name (i := 11) nd rfl (.inl rfl) rfl) (xgs_cons (xg_name (i := 12) nd rfl (.inl rfl) rfl) (xgs_cons (xg_name (i := 13) nd rfl (.inl rfl) rfl) xgs_nil)))) rfl))
    (xss_cons (xs_asg (yc I h_law_life_drawn (by decide) (by rfl) (xa_cons (xm_val 1 (pv 1)) xa_nil)) (xg_tup (in_hK I) rfl (xgs_cons (xg_name (i := 14) nd rfl (.inl rfl) rfl) (xgs_cons (xg_name (i := 15) nd rfl (.inl rfl) rfl) xgs_nil)) rfl))
    (xss_cons (xs_set (i := 3) nd rfl (.inl rfl) rfl (xm_p (xp_op of_mod (xp_ix (in_hK I) (xp_var 1 (pv 1)) xp_int) xp_int)))
    (xss_cons (xs_if (xt_pcmp of_eq (xp_op of_mod (xp_ix (in_hK I) (xp_var 1 (pv 1)) xp_int) xp_int) xp_int (nomark _)) (xss_one (xs_set (i := 3) nd rfl (.inl rfl) rfl (xm_p (xp_op of_mod (xp_ix (in_hK I) (xp_var 1 (pv 1)) xp_int) xp_int)))) xss_nil)
    (xss_cons (xs_set (i := 4) nd rfl (.inl rfl) rfl (xm_p (xp_op of_add xp_int (xp_op of_mod (xp_ix (in_hK I) (xp_var 1 (pv 1)) xp_int) xp_int))))
    (xss_cons (xs_if (xt_pcmp of_eq (xp_op of_mod (xp_ix (in_hK I) (xp_var 1 (pv 1)) xp_int) xp_int) xp_int (nomark _)) (xss_one (xs_set (i := 4) nd rfl (.inl rfl) rfl (xm_p (xp_op of_add xp_int (xp_op of_mod (xp_ix (in_hK I) (xp_var 1 (pv 1)) xp_int) xp_int))))) xss_nil)
    (xss_cons (xs_if (xt_pcmp of_eq (xp_op of_mod (xp_ix (in_hK I) (xp_var 1 (pv 1)) xp_int) xp_int) xp_int (nomark _)) (xss_one (xs_set (i := 4) nd rfl (.inl rfl) rfl (xm_p xp_int))) xss_nil)
    (xss_cons (xs_if (xt_pcmp of_eq (xp_op of_mod (xp_ix (in_hK I) (xp_var 1 (pv 1)) xp_int) xp_int) xp_int (nomark _)) (xss_one (xs_set (i := 4) nd rfl (.inl rfl) rfl (xm_p (xp_op of_sub xp_int (xp_op of_mod (xp_ix (in_hK I) (xp_var 1 (pv 1)) xp_int) xp_int))))) xss_nil)
    (xss_cons (xs_set (i := 5) nd rfl (.inl rfl) rfl (xm_p (xp_op of_sub (xp_op of_mul (xp_var 15 (pv 15)) (xp_op of_add (xp_var 14 (pv 14)) xp_int)) xp_int)))
    (xss_cons (xs_set (i := 6) nd rfl (.inl rfl) rfl (xm_op of_add nu_add (xm_op of_sub nu_sub (yc I h_law_least (by decide) (by rfl) (xa_cons (xm_val 4 (pv 4)) (xa_cons (xm_val 10 (pv 10)) (xa_cons (xm_val 11 (pv 11)) (xa_cons (xm_val 12 (pv 12)) (xa_cons (xm_val 13 (pv 13)) (xa_cons (xm_val 5 (pv 5)) (xa_cons (xm_val 3 (pv 3)) xa_nil)))))))) (xm_p xp_int)) (xm_p (xp_op of_mod (xp_ix (in_hK I) (xp_var 1 (pv 1)) xp_int) xp_int))))
    (xss_cons (xs_set (i := 7) nd rfl (.inl rfl) rfl (ym I h_Lifetime_init (by decide) (by rfl) (xa_cons (xm_val 14 (pv 14)) (xa_cons (xm_val 15 (pv 15)) xa_nil))))
    (xss_cons (xs_set (i := 8) nd rfl (.inl rfl) rfl (yc I h_lifetime_channel (by decide) (by rfl) (xa_cons (xm_val 7 (pv 7)) (xa_cons (xm_val 3 (pv 3)) xa_nil))))
    (xss_cons (xs_if (PW.pt (xw_or (xt_not (xt_val (yc I h_law_like (by decide) (by rfl) (xa_cons (yc I h_lag (by decide) (by rfl) (xa_cons (xm_val 7 (pv 7)) xa_nil)) (xa_cons (xm_val 5 (pv 5)) xa_nil))))) (xw_or (xt_not (xt_val (xm_p (xp_isO (in_hK I) (by rfl) T.b_isinstance T.i_Channel T.t_Channel (xp_var 8 (pv 8)) (pe_glob (v := .ref (Γ.cA 18)) (by rfl) T.m_Channel rfl))))) (xw_or1 (xt_not (xt_val (yc I h_law_like (by decide) (by rfl) (xa_cons (xm_fz 8 (yo0 I h_Channel_fields (by decide) (xp_var 8 (pv 8)))) (xa_cons (xm_p (xp_tup (xpl_cons (xp_var 5 (pv 5)) (xpl_cons (xp_var 3 (pv 3)) xpl_nil)))) xa_nil))))))))) (xss_one (xs_ret (xm_p xp_bl))) xss_nil)
    (xss_cons (xs_set (i := 9) nd rfl (.inl rfl) rfl (yc I h_law_window (by decide) (by rfl) (xa_cons (xm_val 10 (pv 10)) (xa_cons (xm_val 11 (pv 11)) (xa_cons (xm_val 12 (pv 12)) (xa_cons (xm_val 13 (pv 13)) (xa_cons (xm_val 5 (pv 5)) (xa_cons (xm_val 3 (pv 3)) (xa_cons (xm_val 6 (pv 6)) xa_nil)))))))))
    (xss_cons (xs_if (xt_not (xt_val (yc I h_law_like (by decide) (by rfl) (xa_cons (yk I h_largest_window (by decide) (by rfl) (xa_cons (xm_val 8 (pv 8)) (xa_cons (xm_val 6 (pv 6)) xa_nil)) (xk_cons (xm_val 10 (pv 10)) (xk_cons (xm_val 12 (pv 12)) (xk_cons (xm_val 13 (pv 13)) xk_nil)))) (xa_cons (xm_val 9 (pv 9)) xa_nil))))) (xss_one (xs_ret (xm_p xp_bl))) xss_nil)
    (xss_cons (xs_if (PW.pt (xw_and (xt_pcmp of_gt (xp_var 9 (pv 9)) xp_int (nomark _)) (xw_and1 (xt_not (xt_val (yc I h_law_side (by decide) (by rfl) (xa_cons (xm_val 9 (pv 9)) (xa_cons (xm_val 2 (pv 2)) (xa_cons (xm_val 14 (pv 14)) (xa_cons (xm_val 15 (pv 15)) (xa_cons (xm_val 3 (pv 3)) (xa_cons (xm_val 6 (pv 6)) (xa_cons (xm_p xp_bl) xa_nil))))))))))))) (xss_one (xs_ret (xm_p xp_bl))) xss_nil)
    (xss_one (xs_ret (xm_or (xm_p (xp_cmp of_eq (xp_var 9 (pv 9)) xp_int (nomark _))) (xm_one (yc I h_law_side (by decide) (by rfl) (xa_cons (xm_p (xp_op of_add (xp_var 9 (pv 9)) xp_int)) (xa_cons (xm_val 2 (pv 2)) (xa_cons (xm_val 14 (pv 14)) (xa_cons (xm_val 15 (pv 15)) (xa_cons (xm_val 3 (pv 3)) (xa_cons (xm_val 6 (pv 6)) (xa_cons (xm_p xp_bl) xa_nil)))))))))))))))))))))))))))))))

end K89

namespace K89
open PySem L2 PySem.Spec PyProof.Rows ClX Y
abbrev ruleD (w room : Int) (kd ag : Str) (g : Int) : D := .obj false 17 [8,9,10,11,12] [.int w, .int room, .str kd, .str ag, .int g]
abbrev chanD (k j : Int) : D := .obj false 18 [13,14] [.int k, .int j]
abbrev lifeD (t r : Int) : D := .obj false 37 [48,49] [.int t, .int r]
/-- the resend words and the groups -/
inductive Ag : Str → Prop | any : Ag "any" | first : Ag "first" | last : Ag "last" | none : Ag "none"
def rb (w : Int) (ag : Str) : Bool := (decide (ag = "any") || decide (ag = "first")) || (decide (ag = "last") && decide (w = 1))
theorem m_resends {w room g : Int} {kd ag : Str} (h : Ag ag) : val f_resends_base [ruleD w room kd ag g] = some (.ok (.bl (rb w ag))) := by
  cases h <;> simp (decide := true) [f_resends_base, b_resends_base, val_sem, rb, inD, inB, flatOf, itemsOf, flatsOf, inV]
structure Sz (w room g k j : Int) : Prop where
  w1 : 1 ≤ w
  w2 : w ≤ 1000
  r1 : 1 ≤ room
  r2 : room ≤ 1000
  g1 : 0 ≤ g
  g2 : g ≤ 1000
  k1 : 0 ≤ k
  k2 : k ≤ 1000
  j1 : 0 ≤ j
  j2 : j ≤ 1000
inductive KF : Str → Int → Prop | free : KF "free" 0 | fresh : KF "fresh" 0 | grp {kd : Str} {g : Int} : 1 ≤ g → kd ≠ "free" → kd ≠ "fresh" → KF kd g
def mn (i j : Int) : Int := if j < i then j else i
def mx (i j : Int) : Int := if j > i then j else i
def reachI (w : Int) (ag : Str) : Int := if rb w ag then w else 1
def gainI (w room k : Int) (ag : Str) : Int := if rb w ag then mn w room else mn (mn w room) (k + 1)
def growI (w room g k j : Int) (kd ag : Str) : Int := if j = 0 then 0 else if kd = "free" then j * w else if kd = "fresh" then j * gainI w room k ag else mn (gainI w room k ag - 1 + g) w + (j - 1) * mn g w
def LF (w room g k j : Int) (kd ag : Str) : Int := mx (reachI w ag + room + k) (w + 1 + growI w room g k j kd ag)
section
variable {w room g k j : Int} {kd ag : Str}
theorem m_reach (h : Ag ag) : val f_reach_of [ruleD w room kd ag g] = some (.ok (.int (reachI w ag))) := by
  unfold reachI
  cases e : rb w ag <;> simp [f_reach_of, b_reach_of, val_sem, m_resends h, e]
theorem m_gain (h : Ag ag) : val f_gain_of [ruleD w room kd ag g, chanD k j] = some (.ok (.int (gainI w room k ag))) := by
  unfold gainI mn
  cases e : rb w ag <;> simp [f_gain_of, b_gain_of, val_sem, m_resends h, e]
theorem mn_le {i j a b : Int} (h1 : a ≤ i) (h2 : a ≤ j) (h3 : i ≤ b) (h4 : j ≤ b) : a ≤ mn i j ∧ mn i j ≤ b := by unfold mn; split <;> omega
theorem gain_b (S : Sz w room g k j) : 1 ≤ gainI w room k ag ∧ gainI w room k ag ≤ 1000 := by
  obtain ⟨⟩ := S
  unfold gainI mn
  repeat' split
  all_goals omega
theorem m_growth (h : Ag ag) (S : Sz w room g k j) (hk : KF kd g) : val f_growth [ruleD w room kd ag g, chanD k j] = some (.ok (.int (growI w room g k j kd ag))) := by
  have G := gain_b (ag := ag) S
  obtain ⟨⟩ := S
  have m1 : mulOk j w = true := mulOk_s (by omega) (by omega) (by omega) (by omega)
  have m2 : mulOk j (gainI w room k ag) = true := mulOk_s (by omega) (by omega) (by omega) (by omega)
  have m3 : mulOk (j - 1) (if w < g then w else g) = true := mulOk_s (by omega) (by omega) (by split <;> omega) (by split <;> omega)
  unfold growI
  by_cases h0 : j = 0
  · subst h0; simp [f_growth, b_growth, val_sem]
  · cases hk with
    | free => simp (decide := true) [f_growth, b_growth, val_sem, m_gain h, h0, m1]
    | fresh => simp (decide := true) [f_growth, b_growth, val_sem, m_gain h, h0, m2]
    | grp a b c => simp (decide := true) [f_growth, b_growth, val_sem, m_gain h, h0, b, c, m3]; rfl
theorem m_least (h : Ag ag) (S : Sz w room g k j) (hk : KF kd g) : val f_least_by_formula [ruleD w room kd ag g, chanD k j] = some (.ok (.int (LF w room g k j kd ag))) := by
  simp [f_least_by_formula, b_least_by_formula, val_sem, m_reach h, m_growth h S hk]
  rfl
/-- the law's own -/
def cnd (w : Int) (ag : Str) : Bool := decide (ag = "none") || (decide (ag = "last") && decide (1 < w))
def smallI (w room k : Int) (ag : Str) : Int := if cnd w ag then mn (mn room w) (k + 1) else mn room w
def farI (w : Int) (ag : Str) : Int := if cnd w ag then 1 else w
def gvI (w room g k j : Int) (kd ag : Str) : Int := if 0 < j ∧ 0 < g then mn (smallI w room k ag - 1 + g) w + (j - 1) * mn g w else if kd = "free" then j * w else if g = 0 then j * smallI w room k ag else 0
def LL (w room g k j : Int) (kd ag : Str) : Int := mx (farI w ag + room + k) (w + 1 + gvI w room g k j kd ag)
theorem cnd_rb (h : Ag ag) (hw : 1 ≤ w) : cnd w ag = !rb w ag := by
  unfold cnd rb
  cases h <;> simp (decide := true)
  by_cases z : w = 1
  · subst z; simp
  · have : 1 < w := by omega
    simp [z, this]
theorem lf_ll (h : Ag ag) (S : Sz w room g k j) (hk : KF kd g) : LF w room g k j kd ag = LL w room g k j kd ag := by
  have e := cnd_rb h S.w1
  have es : smallI w room k ag = gainI w room k ag := by
    unfold smallI gainI
    rw [e]
    have : mn room w = mn w room := by unfold mn; repeat' split
                                       all_goals omega
    rw [this]
    cases rb w ag <;> rfl
  have ef : farI w ag = reachI w ag := by
    unfold farI reachI
    rw [e]
    cases rb w ag <;> rfl
  have eg : gvI w room g k j kd ag = growI w room g k j kd ag := by
    unfold gvI growI
    rw [es]
    have := S.j1
    by_cases h0 : j = 0
    · subst h0; simp
    · have h1 : 0 < j := by omega
      cases hk with
      | free => simp [h0]
      | fresh => simp (decide := true) [h0]
      | grp a b c =>
        have : 0 < g := by omega
        simp [h0, h1, b, c, this]
  unfold LF LL
  rw [ef, eg]
end
theorem k1 : kitB "int" "bool" = some false := by decide +kernel
theorem k2 : kitB "int" "str" = some false := by decide +kernel
theorem k3 : kitB "int" "int" = some true := by decide +kernel
theorem k4 : kitB "tuple" "bool" = some false := by decide +kernel
theorem k5 : kitB "tuple" "str" = some false := by decide +kernel
theorem k6 : kitB "tuple" "int" = some false := by decide +kernel
theorem k7 : kitB "tuple" "list" = some false := by decide +kernel
theorem k8 : kitB "tuple" "tuple" = some true := by decide +kernel
theorem y1 {i : Int} : isTy2D "str" "int" (.int i) = some (.bl true) := by rfl
theorem y2 {xs : List D} : isTy2D "list" "tuple" (.tup xs) = some (.bl true) := by rfl
section
variable {w room g k j t r : Int} {kd ag : Str}
theorem m_likeI {n : Nat} {a : Int} : val (f_law_likeN (n + 1)) [.int a, .int a] = some (.ok (.bl true)) := by
  show val (semG 3 (b_law_like (f_law_likeN n))) _ = _
  simp [b_law_like, val_sem, k1, k2, k3, y1]
theorem m_likeP {n : Nat} {a b : Int} : val (f_law_likeN (n + 2)) [.tup [.int a, .int b], .tup [.int a, .int b]] = some (.ok (.bl true)) := by
  show val (semG 3 (b_law_like (f_law_likeN (n + 1)))) _ = _
  have e : rngD 0 2 = [.int 0, .int 1] := by rfl
  have e0 : rngOk 2 = true := by decide
  simp [b_law_like, val_sem, k4, k5, k6, k7, k8, y2, e, e0, loopL, atI, ixN, m_likeI]
theorem m_Rule (S : Sz w room g k j) (hg : val f_group_of [.str kd] = some (.ok (.int g))) (h : Ag ag) : f_Rule_init [.obj true 17 [] [], .int w, .int room, .str kd, .str ag] = some (.ok .non, [.obj true 17 [8,9,10,11,12] [.int w, .int room, .str kd, .str ag, .int g], .int w, .int room, .str kd, .str ag]) := by
  obtain ⟨⟩ := S
  have hn : ¬ (g < 0) := by omega
  have hi : notInD (.str ag) (.tup [.str "any", .str "first", .str "last", .str "none"]) = some (.bl false) := by cases h <;> rfl
  simp [f_Rule_init, b_Rule_init, semG, putD, List.idxOf?_cons, hg, hi, *]
theorem m_Chan (S : Sz w room g k j) : f_Channel_init [.obj true 18 [] [], .int k, .int j] = some (.ok .non, [.obj true 18 [13,14] [.int k, .int j], .int k, .int j]) := by
  obtain ⟨⟩ := S
  simp [f_Channel_init, b_Channel_init, semG, putD, List.idxOf?_cons, *]
theorem m_Life (h1 : 0 ≤ t) (h2 : t ≤ 1000) (h3 : 1 ≤ r) (h4 : r ≤ 1000) : f_Lifetime_init [.obj true 37 [] [], .int t, .int r] = some (.ok .non, [.obj true 37 [48,49] [.int t, .int r], .int t, .int r]) := by
  simp [f_Lifetime_init, b_Lifetime_init, semG, putD, List.idxOf?_cons, *]
theorem m_lag (h1 : 0 ≤ t) (h2 : t ≤ 1000) (h3 : 1 ≤ r) (h4 : r ≤ 1000) : val f_lag [lifeD t r] = some (.ok (.int (r * (t + 1) - 1))) := by
  have m : mulOk r (t + 1) = true := mulOk_s (by omega) (by omega) (by omega) (by omega)
  simp [f_lag, b_lag, val_sem, m]
theorem m_lchan (h1 : 0 ≤ t) (h2 : t ≤ 1000) (h3 : 1 ≤ r) (h4 : r ≤ 1000) (S : Sz w room g (r * (t + 1) - 1) j) : val f_lifetime_channel [lifeD t r, .int j] = some (.ok (.obj true 18 [13,14] [.int (r * (t + 1) - 1), .int j])) := by
  simp [f_lifetime_channel, b_lifetime_channel, val_sem, m_lag h1 h2 h3 h4, m_Chan S]
theorem m_lfl (h1 : 0 ≤ t) (h2 : t ≤ 1000) (h3 : 1 ≤ r) (h4 : r ≤ 1000) (S : Sz w room g (r * (t + 1) - 1) j) (h : Ag ag) (hk : KF kd g) : val f_least_for_lifetime [ruleD w room kd ag g, lifeD t r, .int j] = some (.ok (.int (LL w room g (r * (t + 1) - 1) j kd ag))) := by
  simp [f_least_for_lifetime, b_least_for_lifetime, val_sem, m_lchan h1 h2 h3 h4 S, m_least h S hk, lf_ll h S hk]
theorem small_b (S : Sz w room g k j) : 1 ≤ smallI w room k ag ∧ smallI w room k ag ≤ 1000 := by
  obtain ⟨⟩ := S
  unfold smallI mn
  repeat' split
  all_goals omega
theorem m_LL (S : Sz w room g k j) (h : Ag ag) (hk : KF kd g) : val f_law_least [.int w, .int room, .int g, .str kd, .str ag, .int k, .int j] = some (.ok (.int (LL w room g k j kd ag))) := by
  have B := small_b (ag := ag) S
  have m1 : mulOk j w = true := by obtain ⟨⟩ := S; exact mulOk_s (by omega) (by omega) (by omega) (by omega)
  have m2 : mulOk j (smallI w room k ag) = true := by obtain ⟨⟩ := S; exact mulOk_s (by omega) (by omega) (by omega) (by omega)
  have m3 : mulOk (j - 1) (if w < g then w else g) = true := by obtain ⟨⟩ := S; exact mulOk_s (by omega) (by omega) (by split <;> omega) (by split <;> omega)
  have e2 : gvI w room g k j kd ag = gvI w room g k j kd ag := rfl
  unfold LL
  unfold smallI mn at m2
  have hc : cnd w ag = true ∨ cnd w ag = false := by cases cnd w ag <;> simp
  have s7 : ∃ c, cnd w ag = c := ⟨_, rfl⟩
  by_cases hj : 0 < j
  · cases hk with
    | free => cases h <;> by_cases hw : 1 < w <;> simp (decide := true) [f_law_least, b_law_least, val_sem, hj, hw, m1, gvI, farI, smallI, cnd] <;> rfl
    | fresh => cases h <;> by_cases hw : 1 < w <;> simp (decide := true) [cnd, hw] at m2 <;> simp (decide := true) [f_law_least, b_law_least, val_sem, hj, hw, m1, m2, gvI, farI, smallI, cnd] <;> rfl
    | grp a b c =>
      have hg : 0 < g := by omega
      cases h <;> by_cases hw : 1 < w <;> simp (decide := true) [f_law_least, b_law_least, val_sem, hj, hw, hg, b, c, m3, gvI, farI, smallI, cnd] <;> rfl
  · have h0 : j = 0 := by have := S.j1; omega
    subst h0
    cases hk with
    | free => cases h <;> by_cases hw : 1 < w <;> simp (decide := true) [f_law_least, b_law_least, val_sem, hw, m1, gvI, farI, smallI, cnd] <;> rfl
    | fresh => cases h <;> by_cases hw : 1 < w <;> simp (decide := true) [cnd, hw] at m2 <;> simp (decide := true) [f_law_least, b_law_least, val_sem, hw, m1, m2, gvI, farI, smallI, cnd] <;> rfl
    | grp a b c =>
      have hg : 0 < g := by omega
      have hg2 : ¬ g = 0 := by omega
      cases h <;> by_cases hw : 1 < w <;> simp (decide := true) [f_law_least, b_law_least, val_sem, hw, hg, hg2, b, c, m3, gvI, farI, smallI, cnd] <;> rfl
end
end K89

namespace K89
open PySem L2 PySem.Spec PyProof.Rows ClX Y
/-- the search by halves -/
def bs (p : Int → Bool) : Nat → Int → Int → Int
  | 0, lo, _ => lo
  | n + 1, lo, hi => if lo < hi then (if p ((lo + hi + 1) / 2) then bs p n ((lo + hi + 1) / 2) hi else bs p n lo ((lo + hi + 1) / 2 - 1)) else lo
theorem bs_end {p : Int → Bool} : ∀ {n : Nat} {lo hi : Int}, hi ≤ lo → bs p n lo hi = lo
  | 0, _, _, _ => rfl
  | n + 1, lo, hi, h => by unfold bs; rw [if_neg (by omega)]
theorem bs_ok {p : Int → Bool} : ∀ {n : Nat} {lo hi : Int}, lo ≤ hi → hi - lo < 2 ^ n → lo ≤ bs p n lo hi ∧ bs p n lo hi ≤ hi ∧ (bs p n lo hi = lo ∨ p (bs p n lo hi) = true) ∧ (bs p n lo hi = hi ∨ p (bs p n lo hi + 1) = false)
  | 0, lo, hi, h, h2 => by
    have : hi = lo := by simp at h2; omega
    subst this
    unfold bs
    exact ⟨by omega, by omega, .inl rfl, .inl rfl⟩
  | n + 1, lo, hi, h, h2 => by
    unfold bs
    have h3 : (2 : Int) ^ (n + 1) = 2 * 2 ^ n := by rw [Int.pow_succ]; omega
    split
    · rename_i hl
      cases hp : p ((lo + hi + 1) / 2) with
      | true =>
        rw [if_pos rfl]
        obtain ⟨a, b, c, d⟩ := bs_ok (p := p) (n := n) (lo := (lo + hi + 1) / 2) (hi := hi) (by omega) (by omega)
        refine ⟨by omega, b, ?_, d⟩
        rcases c with c | c
        · rw [c]; exact .inr hp
        · exact .inr c
      | false =>
        rw [if_neg (by simp)]
        obtain ⟨a, b, c, d⟩ := bs_ok (p := p) (n := n) (lo := lo) (hi := (lo + hi + 1) / 2 - 1) (by omega) (by omega)
        refine ⟨a, by omega, c, ?_⟩
        rcases d with d | d
        · rw [d]; exact .inr (by rw [show (lo + hi + 1) / 2 - 1 + 1 = (lo + hi + 1) / 2 by omega]; exact hp)
        · exact .inr d
    · have : hi = lo := by omega
      subst this
      exact ⟨by omega, by omega, .inl rfl, .inl rfl⟩
/-- the greatest: told by its ends -/
theorem top_uniq {f : Int → Int} {N a b H : Int} (mono : ∀ x y, 0 ≤ x → x ≤ y → y ≤ H → f x ≤ f y) (ha : 0 ≤ a) (hb : 0 ≤ b) (haH : a ≤ H) (hbH : b ≤ H) (a1 : f a ≤ N) (b1 : f b ≤ N) (a2 : a = H ∨ ¬ f (a + 1) ≤ N) (b2 : b = H ∨ ¬ f (b + 1) ≤ N) : a = b := by
  rcases Int.lt_trichotomy a b with h | h | h
  · have := mono (a + 1) b (by omega) (by omega) hbH
    omega
  · exact h
  · have := mono (b + 1) a (by omega) (by omega) haH
    omega
section
variable {room g k j N : Int} {kd ag : Str}
abbrev cW : MT := tM (mP (pBin ltD (pVar 5) (pVar 6)))
abbrev bW : SM := (sSeq (sSet 8 (mP (pBin divD (pBin addD (pBin addD (pVar 5) (pVar 6)) (pC (.int 1))) (pC (.int 2)))))
    (sIf (tM (mBin leD (mCall 2 f_least_by_formula (aCons (mMake 17 5 f_Rule_init (aCons (mVal 8) (aCons (mP (pFld (pVar 7) 9)) (aCons (mVal 3) (aCons (mVal 4) aNil))))) (aCons (mVal 0) aNil))) (mVal 1))) (sSet 5 (mVal 8)) (sSet 6 (mP (pBin subD (pVar 8) (pC (.int 1)))))))
def fit (room g k j N : Int) (kd ag : Str) (m : Int) : Bool := decide (LL m room g k j kd ag ≤ N)
theorem z_div2 : divOk 2 = true := by decide +kernel
theorem step_W (S : ∀ w, 1 ≤ w → w ≤ 1000 → Sz w room g k j) (hg : val f_group_of [.str kd] = some (.ok (.int g))) (h : Ag ag) (hk : KF kd g) {lo hi : Int} {z : D} (h0 : 0 ≤ lo) (h1 : lo < hi) (h2 : hi ≤ 1000) :
    bW [chanD k j, .int N, .int room, .str kd, .str ag, .int lo, .int hi, .obj true 17 [8,9,10,11,12] [.int 1, .int room, .str kd, .str ag, .int g], z] =
      some (.next, if fit room g k j N kd ag ((lo + hi + 1) / 2) then [chanD k j, .int N, .int room, .str kd, .str ag, .int ((lo + hi + 1) / 2), .int hi, .obj true 17 [8,9,10,11,12] [.int 1, .int room, .str kd, .str ag, .int g], .int ((lo + hi + 1) / 2)]
        else [chanD k j, .int N, .int room, .str kd, .str ag, .int lo, .int ((lo + hi + 1) / 2 - 1), .obj true 17 [8,9,10,11,12] [.int 1, .int room, .str kd, .str ag, .int g], .int ((lo + hi + 1) / 2)]) := by
  have S' := S ((lo + hi + 1) / 2) (by omega) (by omega)
  unfold fit
  by_cases hp : LL ((lo + hi + 1) / 2) room g k j kd ag ≤ N
  · simp [z_div2, m_Rule S' hg h, m_least h S' hk, lf_ll h S' hk, hp]
  · simp [z_div2, m_Rule S' hg h, m_least h S' hk, lf_ll h S' hk, hp]
theorem loop_W (S : ∀ w, 1 ≤ w → w ≤ 1000 → Sz w room g k j) (hg : val f_group_of [.str kd] = some (.ok (.int g))) (h : Ag ag) (hk : KF kd g) (f : Nat) : ∀ (n : Nat) {lo hi : Int} {z : D}, 0 ≤ lo → lo ≤ hi → hi ≤ 1000 → hi - lo < 2 ^ n →
    ∃ hi' z', whileM cW bW (n + 1 + f) [chanD k j, .int N, .int room, .str kd, .str ag, .int lo, .int hi, .obj true 17 [8,9,10,11,12] [.int 1, .int room, .str kd, .str ag, .int g], z] =
      some (.next, [chanD k j, .int N, .int room, .str kd, .str ag, .int (bs (fit room g k j N kd ag) n lo hi), .int hi', .obj true 17 [8,9,10,11,12] [.int 1, .int room, .str kd, .str ag, .int g], z'])
  | 0, lo, hi, z, h0, h1, h2, h3 => by
    have : ¬ lo < hi := by simp at h3; omega
    refine ⟨hi, z, ?_⟩
    rw [show 0 + 1 + f = f + 1 by omega]
    unfold whileM
    simp [this, bs]
  | n + 1, lo, hi, z, h0, h1, h2, h3 => by
    have h4 : (2 : Int) ^ (n + 1) = 2 * 2 ^ n := by rw [Int.pow_succ]; omega
    by_cases hl : lo < hi
    · have e := step_W (N := N) S hg h hk (z := z) h0 hl h2
      have ec : cW [chanD k j, .int N, .int room, .str kd, .str ag, .int lo, .int hi, .obj true 17 [8,9,10,11,12] [.int 1, .int room, .str kd, .str ag, .int g], z] = some (.ok true, [chanD k j, .int N, .int room, .str kd, .str ag, .int lo, .int hi, .obj true 17 [8,9,10,11,12] [.int 1, .int room, .str kd, .str ag, .int g], z]) := by simp [hl]
      rw [show n + 1 + 1 + f = (n + 1 + f) + 1 by omega]
      unfold whileM bs
      rw [ec, if_pos hl]
      dsimp only
      rw [e]
      dsimp only
      cases hp : fit room g k j N kd ag ((lo + hi + 1) / 2) with
      | true =>
        rw [if_pos rfl, if_pos rfl]
        exact loop_W S hg h hk f n (by omega) (by omega) h2 (by omega)
      | false =>
        rw [if_neg (by simp), if_neg (by simp)]
        exact loop_W S hg h hk f n h0 (by omega) (by omega) (by omega)
    · refine ⟨hi, z, ?_⟩
      rw [show n + 1 + 1 + f = (n + 1 + f) + 1 by omega, bs_end (by omega)]
      unfold whileM
      simp [hl]
theorem m_largest (S : ∀ w, 1 ≤ w → w ≤ 1000 → Sz w room g k j) (hg : val f_group_of [.str kd] = some (.ok (.int g))) (h : Ag ag) (hk : KF kd g) (n1 : 1 ≤ N) (n2 : N ≤ 2000000) :
    val f_largest_window [chanD k j, .int N, .int room, .str kd, .str ag] = some (.ok (.int (bs (fit room g k j N kd ag) 12 0 1000))) := by
  obtain ⟨hi, z, e⟩ := loop_W (N := N) S hg h hk 99987 12 (lo := 0) (hi := 1000) (z := .unk) (by omega) (by omega) (by omega) (by decide)
  have c : val f_check_numbers [.int N] = some (.ok .non) := by simp [f_check_numbers, b_check_numbers, val_sem, n1, n2]
  have e2 := e
  simp [f_largest_window, b_largest_window, val_sem, c, m_Rule (S 1 (by omega) (by omega)) hg h, e]
/-- the law's search -/
abbrev bLW : SM := (sIf (tM (mP (pBin ltD (pVar 7) (pVar 8)))) (sSeq (sSet 10 (mP (pBin divD (pBin addD (pBin addD (pVar 7) (pVar 8)) (pC (.int 1))) (pC (.int 2)))))
    (sIf (tM (mBin leD (mCall 7 f_law_least (aCons (mVal 10) (aCons (mVal 0) (aCons (mVal 1) (aCons (mVal 2) (aCons (mVal 3) (aCons (mVal 4) (aCons (mVal 5) aNil)))))))) (mVal 6))) (sSet 7 (mVal 10)) (sSet 8 (mP (pBin subD (pVar 10) (pC (.int 1))))))) sNext)
theorem loop_LW (S : ∀ w, 1 ≤ w → w ≤ 1000 → Sz w room g k j) (h : Ag ag) (hk : KF kd g) : ∀ (n : Nat) (ds : List D) {lo hi : Int} {z y : D}, ds.length = n → 0 ≤ lo → lo ≤ hi → hi ≤ 1000 →
    ∃ hi' z' y', loopL (gN 9) bLW ds [.int room, .int g, .str kd, .str ag, .int k, .int j, .int N, .int lo, .int hi, y, z] =
      some (.next, [.int room, .int g, .str kd, .str ag, .int k, .int j, .int N, .int (bs (fit room g k j N kd ag) n lo hi), .int hi', y', z'])
  | 0, [], lo, hi, z, y, _, h0, h1, h2 => ⟨hi, z, y, by simp [loopL, bs]⟩
  | n + 1, d :: ds, lo, hi, z, y, hd, h0, h1, h2 => by
    by_cases hl : lo < hi
    · have S' := S ((lo + hi + 1) / 2) (by omega) (by omega)
      unfold bs
      rw [if_pos hl]
      by_cases hp : LL ((lo + hi + 1) / 2) room g k j kd ag ≤ N
      · obtain ⟨a, b, c, e⟩ := loop_LW S h hk n ds (lo := (lo + hi + 1) / 2) (hi := hi) (z := .int ((lo + hi + 1) / 2)) (y := d) (by simpa using hd) (by omega) (by omega) h2
        refine ⟨a, b, c, ?_⟩
        rw [if_pos (by simp [fit, hp])]
        simp [loopL, hl, z_div2, m_LL S' h hk, hp, e]
      · obtain ⟨a, b, c, e⟩ := loop_LW S h hk n ds (lo := lo) (hi := (lo + hi + 1) / 2 - 1) (z := .int ((lo + hi + 1) / 2)) (y := d) (by simpa using hd) (by omega) (by omega) (by omega)
        refine ⟨a, b, c, ?_⟩
        rw [if_neg (by simp [fit, hp])]
        simp [loopL, hl, z_div2, m_LL S' h hk, hp, e]
    · obtain ⟨a, b, c, e⟩ := loop_LW S h hk n ds (lo := lo) (hi := hi) (z := z) (y := d) (by simpa using hd) h0 h1 h2
      refine ⟨a, b, c, ?_⟩
      rw [bs_end (by omega)] at e ⊢
      simp [loopL, hl, e]
theorem m_LW (S : ∀ w, 1 ≤ w → w ≤ 1000 → Sz w room g k j) (h : Ag ag) (hk : KF kd g) :
    val f_law_window [.int room, .int g, .str kd, .str ag, .int k, .int j, .int N] = some (.ok (.int (bs (fit room g k j N kd ag) 12 0 1000))) := by
  obtain ⟨a, b, c, e⟩ := loop_LW (N := N) S h hk 12 (rngD 0 12) (lo := 0) (hi := 1000) (z := .unk) (y := .unk) (by rfl) (by omega) (by omega) (by omega)
  have e0 : rngOk 12 = true := by decide
  simp [f_law_window, b_law_window, val_sem, e, e0]
end
end K89

namespace K89
open PySem L2 PySem.Spec PyProof.Rows ClX Y
section
variable {w room g k j N r H t : Int} {kd ag : Str}
def fitT (w room g r j N : Int) (kd ag : Str) (m : Int) : Bool := decide (LL w room g (r * (m + 1) - 1) j kd ag ≤ N)
abbrev bLT : SM := (sIf (tM (mP (pBin ltD (pVar 8) (pVar 9)))) (sSeq (sSet 11 (mP (pBin divD (pBin addD (pBin addD (pVar 8) (pVar 9)) (pC (.int 1))) (pC (.int 2)))))
    (sIf (tM (mBin leD (mCall 7 f_law_least (aCons (mVal 0) (aCons (mVal 1) (aCons (mVal 2) (aCons (mVal 3) (aCons (mVal 4) (aCons (mP (pBin subD (pBin mulD (pVar 5) (pBin addD (pVar 11) (pC (.int 1)))) (pC (.int 1)))) (aCons (mVal 6) aNil)))))))) (mVal 7))) (sSet 8 (mVal 11)) (sSet 9 (mP (pBin subD (pVar 11) (pC (.int 1))))))) sNext)
theorem loop_LT (hr : 1 ≤ r) (hr2 : r ≤ 1000) (hH : H ≤ 1000) (S : ∀ m, 0 ≤ m → m ≤ H → Sz w room g (r * (m + 1) - 1) j) (h : Ag ag) (hk : KF kd g) : ∀ (n : Nat) (ds : List D) {lo hi : Int} {z y : D}, ds.length = n → -1 ≤ lo → lo ≤ hi → hi ≤ H →
    ∃ hi' z' y', loopL (gN 10) bLT ds [.int w, .int room, .int g, .str kd, .str ag, .int r, .int j, .int N, .int lo, .int hi, y, z] =
      some (.next, [.int w, .int room, .int g, .str kd, .str ag, .int r, .int j, .int N, .int (bs (fitT w room g r j N kd ag) n lo hi), .int hi', y', z'])
  | 0, [], lo, hi, z, y, _, h0, h1, h2 => ⟨hi, z, y, by simp [loopL, bs]⟩
  | n + 1, d :: ds, lo, hi, z, y, hd, h0, h1, h2 => by
    by_cases hl : lo < hi
    · have S' := S ((lo + hi + 1) / 2) (by omega) (by omega)
      have m1 : mulOk r ((lo + hi + 1) / 2 + 1) = true := mulOk_s (by omega) (by omega) (by omega) (by omega)
      unfold bs
      rw [if_pos hl]
      by_cases hp : LL w room g (r * ((lo + hi + 1) / 2 + 1) - 1) j kd ag ≤ N
      · obtain ⟨a, b, c, e⟩ := loop_LT hr hr2 hH S h hk n ds (lo := (lo + hi + 1) / 2) (hi := hi) (z := .int ((lo + hi + 1) / 2)) (y := d) (by simpa using hd) (by omega) (by omega) h2
        refine ⟨a, b, c, ?_⟩
        rw [if_pos (by simp [fitT, hp])]
        simp [loopL, hl, z_div2, m1, m_LL S' h hk, hp, e]
      · obtain ⟨a, b, c, e⟩ := loop_LT hr hr2 hH S h hk n ds (lo := lo) (hi := (lo + hi + 1) / 2 - 1) (z := .int ((lo + hi + 1) / 2)) (y := d) (by simpa using hd) (by omega) (by omega) (by omega)
        refine ⟨a, b, c, ?_⟩
        rw [if_neg (by simp [fitT, hp])]
        simp [loopL, hl, z_div2, m1, m_LL S' h hk, hp, e]
    · obtain ⟨a, b, c, e⟩ := loop_LT hr hr2 hH S h hk n ds (lo := lo) (hi := hi) (z := z) (y := d) (by simpa using hd) h0 h1 h2
      refine ⟨a, b, c, ?_⟩
      rw [bs_end (by omega)] at e ⊢
      simp [loopL, hl, e]
theorem m_LT (hr : 1 ≤ r) (hr2 : r ≤ 1000) (hH : H ≤ 1000) (h0 : 0 ≤ H) (eH : 1001 / r - 1 = H) (S : ∀ m, 0 ≤ m → m ≤ H → Sz w room g (r * (m + 1) - 1) j) (h : Ag ag) (hk : KF kd g) :
    val f_law_longest [.int w, .int room, .int g, .str kd, .str ag, .int r, .int j, .int N] = some (.ok (.int (bs (fitT w room g r j N kd ag) 12 (-1) H))) := by
  obtain ⟨a, b, c, e⟩ := loop_LT (N := N) hr hr2 hH S h hk 12 (rngD 0 12) (lo := -1) (hi := H) (z := .unk) (y := .unk) (by rfl) (by omega) (by omega) (by omega)
  have e0 : rngOk 12 = true := by decide
  have e1 : divOk r = true := divOk_s (by omega) (by omega)
  simp [f_law_longest, b_law_longest, val_sem, e, e0, e1, eH]
abbrev cT : MT := tM (mP (pBin ltD (pVar 4) (pVar 5)))
abbrev bT : SM := (sSeq (sSet 6 (mP (pBin divD (pBin addD (pBin addD (pVar 4) (pVar 5)) (pC (.int 1))) (pC (.int 2)))))
    (sIf (tM (mBin leD (mCall 3 f_least_for_lifetime (aCons (mVal 0) (aCons (mMake 37 3 f_Lifetime_init (aCons (mVal 6) (aCons (mVal 1) aNil))) (aCons (mVal 2) aNil)))) (mVal 3))) (sSet 4 (mVal 6)) (sSet 5 (mP (pBin subD (pVar 6) (pC (.int 1)))))))
theorem loop_T (hr : 1 ≤ r) (hr2 : r ≤ 1000) (hH : H ≤ 1000) (S : ∀ m, 0 ≤ m → m ≤ H → Sz w room g (r * (m + 1) - 1) j) (h : Ag ag) (hk : KF kd g) (f : Nat) : ∀ (n : Nat) {lo hi : Int} {z : D}, 0 ≤ lo → lo ≤ hi → hi ≤ H → hi - lo < 2 ^ n →
    ∃ hi' z', whileM cT bT (n + 1 + f) [ruleD w room kd ag g, .int r, .int j, .int N, .int lo, .int hi, z] =
      some (.next, [ruleD w room kd ag g, .int r, .int j, .int N, .int (bs (fitT w room g r j N kd ag) n lo hi), .int hi', z'])
  | 0, lo, hi, z, h0, h1, h2, h3 => by
    have : ¬ lo < hi := by simp at h3; omega
    refine ⟨hi, z, ?_⟩
    rw [show 0 + 1 + f = f + 1 by omega]
    unfold whileM
    simp [this, bs]
  | n + 1, lo, hi, z, h0, h1, h2, h3 => by
    have h4 : (2 : Int) ^ (n + 1) = 2 * 2 ^ n := by rw [Int.pow_succ]; omega
    by_cases hl : lo < hi
    · have S' := S ((lo + hi + 1) / 2) (by omega) (by omega)
      have ml := m_Life (t := (lo + hi + 1) / 2) (r := r) (by omega) (by omega) hr hr2
      have mf := m_lfl (t := (lo + hi + 1) / 2) (r := r) (by omega) (by omega) hr hr2 S' h hk
      rw [show n + 1 + 1 + f = (n + 1 + f) + 1 by omega]
      unfold bs
      rw [if_pos hl]
      by_cases hp : LL w room g (r * ((lo + hi + 1) / 2 + 1) - 1) j kd ag ≤ N
      · obtain ⟨a, b, e⟩ := loop_T hr hr2 hH S h hk f n (lo := (lo + hi + 1) / 2) (hi := hi) (z := .int ((lo + hi + 1) / 2)) (by omega) (by omega) h2 (by omega)
        refine ⟨a, b, ?_⟩
        rw [if_pos (by simp [fitT, hp])]
        unfold whileM
        simp [hl, z_div2, ml, mf, hp, e]
      · obtain ⟨a, b, e⟩ := loop_T hr hr2 hH S h hk f n (lo := lo) (hi := (lo + hi + 1) / 2 - 1) (z := .int ((lo + hi + 1) / 2)) h0 (by omega) (by omega) (by omega)
        refine ⟨a, b, ?_⟩
        rw [if_neg (by simp [fitT, hp])]
        unfold whileM
        simp [hl, z_div2, ml, mf, hp, e]
    · refine ⟨hi, z, ?_⟩
      rw [show n + 1 + 1 + f = (n + 1 + f) + 1 by omega, bs_end (by omega)]
      unfold whileM
      simp [hl]
theorem m_T0 (hr : 1 ≤ r) (hr2 : r ≤ 1000) (h0 : 0 ≤ H) (S : ∀ m, 0 ≤ m → m ≤ H → Sz w room g (r * (m + 1) - 1) j) (h : Ag ag) (hk : KF kd g) (n1 : 1 ≤ N) (n2 : N ≤ 2000000) (hp : ¬ LL w room g (r * (0 + 1) - 1) j kd ag ≤ N) :
    val f_longest_lifetime [ruleD w room kd ag g, .int r, .int j, .int N] = some (.ok .non) := by
  have c : val f_check_numbers [.int N] = some (.ok .non) := by simp [f_check_numbers, b_check_numbers, val_sem, n1, n2]
  have mf := m_lfl (t := 0) (r := r) (by omega) (by omega) hr hr2 (S 0 (by omega) h0) h hk
  have hp' : N < LL w room g (r * (0 + 1) - 1) j kd ag := by omega
  simp only [Int.zero_add, Int.mul_one] at mf hp'
  simp [f_longest_lifetime, b_longest_lifetime, val_sem, c, m_Life (t := 0) (r := r) (by omega) (by omega) hr hr2, mf, hp']
theorem m_T1 (hr : 1 ≤ r) (hr2 : r ≤ 1000) (hH : H ≤ 1000) (h0 : 0 ≤ H) (eH : 1001 / r - 1 = H) (S : ∀ m, 0 ≤ m → m ≤ H → Sz w room g (r * (m + 1) - 1) j) (h : Ag ag) (hk : KF kd g) (n1 : 1 ≤ N) (n2 : N ≤ 2000000) (hp : LL w room g (r * (0 + 1) - 1) j kd ag ≤ N) :
    val f_longest_lifetime [ruleD w room kd ag g, .int r, .int j, .int N] = some (.ok (.obj true 37 [48,49] [.int (bs (fitT w room g r j N kd ag) 12 0 H), .int r])) := by
  have c : val f_check_numbers [.int N] = some (.ok .non) := by simp [f_check_numbers, b_check_numbers, val_sem, n1, n2]
  have mf := m_lfl (t := 0) (r := r) (by omega) (by omega) hr hr2 (S 0 (by omega) h0) h hk
  have hp' : ¬ N < LL w room g (r * (0 + 1) - 1) j kd ag := by omega
  have e1 : divOk r = true := divOk_s (by omega) (by omega)
  obtain ⟨a, b, e⟩ := loop_T (N := N) hr hr2 hH S h hk 99987 12 (lo := 0) (hi := H) (z := .unk) (by omega) (by omega) (by omega) (by omega)
  have B := bs_ok (p := fitT w room g r j N kd ag) (n := 12) (lo := 0) (hi := H) (by omega) (by omega)
  have ml := m_Life (t := bs (fitT w room g r j N kd ag) 12 0 H) (r := r) (by omega) (by omega) hr hr2
  simp only [Int.zero_add, Int.mul_one] at mf hp'
  simp [f_longest_lifetime, b_longest_lifetime, val_sem, c, m_Life (t := 0) (r := r) (by omega) (by omega) hr hr2, mf, hp', e1, eH, e, ml]
theorem mn_mono {a b c d : Int} (h1 : a ≤ b) (h2 : c ≤ d) : mn a c ≤ mn b d := by unfold mn; (repeat' split) <;> omega
theorem mx_mono {a b c d : Int} (h1 : a ≤ b) (h2 : c ≤ d) : mx a c ≤ mx b d := by unfold mx; (repeat' split) <;> omega
theorem ll_mono {k' : Int} (hk : k ≤ k') (hj : 0 ≤ j) : LL w room g k j kd ag ≤ LL w room g k' j kd ag := by
  have hs : smallI w room k ag ≤ smallI w room k' ag := by
    unfold smallI
    split
    · exact mn_mono (Int.le_refl _) (by omega)
    · exact Int.le_refl _
  unfold LL
  refine mx_mono (by omega) ?_
  have : gvI w room g k j kd ag ≤ gvI w room g k' j kd ag := by
    unfold gvI
    split
    · have := mn_mono (a := smallI w room k ag - 1 + g) (b := smallI w room k' ag - 1 + g) (c := w) (d := w) (by omega) (Int.le_refl _)
      omega
    · split
      · exact Int.le_refl _
      · split
        · exact Int.mul_le_mul_of_nonneg_left hs hj
        · exact Int.le_refl _
  omega
theorem mul_b {a b : Int} (h1 : 0 ≤ a) (h2 : a ≤ 1000) (h3 : 0 ≤ b) (h4 : b ≤ 1000) : 0 ≤ a * b ∧ a * b ≤ 1000000 := ⟨Int.mul_nonneg h1 h3, Int.le_trans (Int.mul_le_mul h2 h4 h3 (by omega)) (by decide)⟩
theorem ll_b (S : Sz w room g k j) : 2 ≤ LL w room g k j kd ag ∧ LL w room g k j kd ag ≤ 1002001 := by
  have B := small_b (ag := ag) S
  obtain ⟨⟩ := S
  have hg : 0 ≤ gvI w room g k j kd ag ∧ gvI w room g k j kd ag ≤ 1001000 := by
    unfold gvI
    split
    · rename_i z
      have a := mn_le (i := smallI w room k ag - 1 + g) (j := w) (a := 0) (b := 2000) (by omega) (by omega) (by omega) (by omega)
      have a2 : mn (smallI w room k ag - 1 + g) w ≤ 1000 := by unfold mn; split <;> omega
      have b := mn_le (i := g) (j := w) (a := 0) (b := 1000) (by omega) (by omega) (by omega) (by omega)
      have c := mul_b (a := j - 1) (b := mn g w) (by omega) (by omega) (by omega) (by omega)
      omega
    · split
      · have c := mul_b (a := j) (b := w) (by omega) (by omega) (by omega) (by omega)
        omega
      · split
        · have c := mul_b (a := j) (b := smallI w room k ag) (by omega) (by omega) (by omega) (by omega)
          omega
        · omega
  have hf : 1 ≤ farI w ag ∧ farI w ag ≤ 1000 := by unfold farI; split <;> omega
  unfold LL mx
  split <;> omega
end
end K89

namespace K89
open PySem L2 PySem.Spec PyProof.Rows ClX Y
section
variable {w room g k j N r H t : Int} {kd ag : Str}
theorem m_side (b : Bool) (hr : 1 ≤ r) (hr2 : r ≤ 1000) (hH : H ≤ 1000) (h0 : 0 ≤ H) (eH : 1001 / r - 1 = H) (S : ∀ m, 0 ≤ m → m ≤ H → Sz w room g (r * (m + 1) - 1) j) (hg : val f_group_of [.str kd] = some (.ok (.int g))) (h : Ag ag) (hk : KF kd g) (n1 : 1 ≤ N) (n2 : N ≤ 2000000)
    (t0 : 0 ≤ t) (tH : t ≤ H) (hb : fitT w room g r j N kd ag t = b) :
    val f_law_side [.int w, .tup [.int room, .int g, .str kd, .str ag], .int t, .int r, .int j, .int N, .bl b] = some (.ok (.bl true)) := by
  have ml := m_Life (t := t) (r := r) t0 (by omega) hr hr2
  have mf := m_lfl (t := t) (r := r) t0 (by omega) hr hr2 (S t t0 tH) h hk
  have mL := m_LL (S t t0 tH) h hk
  have mR := m_Rule (S t t0 tH) hg h
  have m1 : mulOk r (t + 1) = true := mulOk_s (by omega) (by omega) (by omega) (by omega)
  have mT := m_LT (N := N) hr hr2 hH h0 eH S h hk
  have lk : ∀ a, val f_law_like [.int a, .int a] = some (.ok (.bl true)) := fun a => m_likeI (n := 5)
  have lp : ∀ a b, val f_law_like [.tup [.int a, .int b], .tup [.int a, .int b]] = some (.ok (.bl true)) := fun a b => m_likeP (n := 4)
  have B := bs_ok (p := fitT w room g r j N kd ag) (n := 12) (lo := -1) (hi := H) (by omega) (by omega)
  have mono : ∀ x y, 0 ≤ x → x ≤ y → y ≤ H → LL w room g (r * (x + 1) - 1) j kd ag ≤ LL w room g (r * (y + 1) - 1) j kd ag := fun x y h1 h2 h3 =>
    ll_mono (by have := Int.mul_le_mul_of_nonneg_left (a := x + 1) (b := y + 1) (c := r) (by omega) (by omega); omega) (S x h1 (by omega)).j1
  have hfit : ∀ m, fitT w room g r j N kd ag m = true ↔ LL w room g (r * (m + 1) - 1) j kd ag ≤ N := fun m => by unfold fitT; simp
  have hfit2 : ∀ m, fitT w room g r j N kd ag m = false ↔ ¬ LL w room g (r * (m + 1) - 1) j kd ag ≤ N := fun m => by unfold fitT; simp
  have hbl : decide (LL w room g (r * (t + 1) - 1) j kd ag ≤ N) = b := hb
  have hlen : lenOk 2 = true := by decide +kernel
  by_cases hl : bs (fitT w room g r j N kd ag) 12 (-1) H < 0
  · have e1 : bs (fitT w room g r j N kd ag) 12 (-1) H = -1 := by omega
    rw [e1] at B mT
    have n0 : ¬ LL w room g (r * (0 + 1) - 1) j kd ag ≤ N := by
      rcases B.2.2.2 with z | z
      · omega
      · exact (hfit2 0).mp z
    have nt : b = false := by
      rw [← hb, hfit2]
      have := mono 0 t (by omega) t0 tH
      omega
    subst nt
    have mZ := m_T0 (N := N) hr hr2 h0 S h hk n1 n2 n0
    simp [f_law_side, b_law_side, val_sem, ml, mf, mL, mR, m1, mT, lk, hbl, mZ]
  · have B0 := B.2.2.1
    have hp : LL w room g (r * (bs (fitT w room g r j N kd ag) 12 (-1) H + 1) - 1) j kd ag ≤ N := by
      rcases B0 with z | z
      · omega
      · exact (hfit _).mp z
    have p0 : LL w room g (r * (0 + 1) - 1) j kd ag ≤ N := by
      have := mono 0 _ (by omega) (by omega : 0 ≤ bs (fitT w room g r j N kd ag) 12 (-1) H) (by omega)
      omega
    have mO := m_T1 (N := N) hr hr2 hH h0 eH S h hk n1 n2 p0
    have C := bs_ok (p := fitT w room g r j N kd ag) (n := 12) (lo := 0) (hi := H) (by omega) (by omega)
    have cp : LL w room g (r * (bs (fitT w room g r j N kd ag) 12 0 H + 1) - 1) j kd ag ≤ N := by
      rcases C.2.2.1 with z | z
      · rw [z]; exact p0
      · exact (hfit _).mp z
    have q2 : ∀ {x : Int}, (x = H ∨ fitT w room g r j N kd ag (x + 1) = false) → (x = H ∨ ¬ LL w room g (r * (x + 1 + 1) - 1) j kd ag ≤ N) := fun z => z.imp id (hfit2 _).mp
    have eq : bs (fitT w room g r j N kd ag) 12 0 H = bs (fitT w room g r j N kd ag) 12 (-1) H :=
      top_uniq (f := fun m => LL w room g (r * (m + 1) - 1) j kd ag) (H := H) mono C.1 (by omega) C.2.1 B.2.1 cp hp (q2 C.2.2.2) (q2 B.2.2.2)
    rw [eq] at mO
    have fin : decide (t ≤ bs (fitT w room g r j N kd ag) 12 (-1) H) = b := by
      rw [← hb]
      by_cases z : t ≤ bs (fitT w room g r j N kd ag) 12 (-1) H
      · have := mono t _ t0 z B.2.1
        rw [decide_eq_true z]
        exact ((hfit t).mpr (by omega)).symm
      · rw [decide_eq_false z]
        refine ((hfit2 t).mpr ?_).symm
        rcases q2 B.2.2.2 with y | y
        · omega
        · have := mono _ t (by omega : 0 ≤ bs (fitT w room g r j N kd ag) 12 (-1) H + 1) (by omega) tH
          omega
    have hl2 : ¬ (bs (fitT w room g r j N kd ag) 12 (-1) H < 0) := hl
    simp [f_law_side, b_law_side, val_sem, ml, mf, mL, mR, m1, mT, lk, hbl, mO, hl2, hlen, lp, fin]
/-- the words of a group -/
def kdOf (n : Nat) : Str := ("every " : Str) ++ (toString (n : Int) : String)
def grpOk (n : Nat) : Bool := (match val f_group_of [.str (kdOf n)] with | some (.ok (.int i)) => decide (i = (n : Int)) | _ => false) && (decide (kdOf n ≠ "free") && decide (kdOf n ≠ "fresh"))
def strOk (n : Nat) : Bool := lenOk (("every " : Str).length + Str.length (toString (n : Int) : String))
theorem grp_all : ∀ n, n < 1001 → 2 ≤ n → grpOk n = true := by decide +kernel
theorem str_all : ∀ n, n < 1001 → strOk n = true := by decide +kernel
end
end K89

namespace K89
open PySem L2 PySem.Spec PyProof.Rows ClX Y
section
variable {w room g k j N r H t : Int} {kd ag : Str}
structure Drawn (room g : Int) (kd ag : Str) : Prop where
  r1 : 1 ≤ room
  r2 : room ≤ 1000
  g1 : 0 ≤ g
  g2 : g ≤ 1000
  hg : val f_group_of [.str kd] = some (.ok (.int g))
  ag : Ag ag
  kf : KF kd g
theorem kd_of {n : Nat} (h : n < 1001) (h2 : 2 ≤ n) : val f_group_of [.str (kdOf n)] = some (.ok (.int n)) ∧ KF (kdOf n) n := by
  have z := grp_all n h h2
  unfold grpOk at z
  rw [Bool.and_eq_true, Bool.and_eq_true] at z
  obtain ⟨a, b, c⟩ := z
  refine ⟨?_, .grp (by omega) (of_decide_eq_true b) (of_decide_eq_true c)⟩
  split at a
  · rename_i i e
    rw [e, of_decide_eq_true a]
  · cases a
theorem g_each : val f_group_of [.str "each"] = some (.ok (.int 1)) := by simp [f_group_of, b_group_of, val_sem]
theorem g_free : val f_group_of [.str "free"] = some (.ok (.int 0)) := by simp (decide := true) [f_group_of, b_group_of, val_sem]
theorem g_fresh : val f_group_of [.str "fresh"] = some (.ok (.int 0)) := by simp (decide := true) [f_group_of, b_group_of, val_sem]
abbrev rowD (a0 a1 a2 a3 a4 a5 a6 a7 a8 a9 a10 a11 a12 a13 : Int) : D := .lst false [.int a0, .int a1, .int a2, .int a3, .int a4, .int a5, .int a6, .int a7, .int a8, .int a9, .int a10, .int a11, .int a12, .int a13]
variable {a0 a1 a2 a3 a4 a5 a6 a7 a8 a9 a10 a11 a12 a13 : Int}
theorem str_of {n : Int} (h0 : 0 ≤ n) (h : n ≤ 1000) : ∃ q : Str, strD [.int n] = some (.str q) ∧ lenOk (("every " : Str).length + q.length) = true ∧ (2 ≤ n → val f_group_of [.str (("every " : Str) ++ q)] = some (.ok (.int n)) ∧ KF (("every " : Str) ++ q) n) := by
  obtain ⟨m, rfl⟩ := Int.eq_ofNat_of_zero_le h0
  have z := str_all m (by omega)
  refine ⟨_, ?_, z, fun h2 => kd_of (by omega) (by omega)⟩
  show (if decide (((m : Nat) : Int).natAbs.log2 < 1920) = true then some (D.str (toString ((m : Nat) : Int) : String)) else none) = _
  rw [if_pos (decide_eq_true (log2_lt_of (by decide) (Nat.lt_of_lt_of_le (show ((m : Nat) : Int).natAbs < 2 ^ 10 by omega) (Nat.pow_le_pow_right (by decide) (by decide)))))]
theorem ag_of {i : Int} (h0 : 0 ≤ i) (h1 : i < 4) : ∃ ag, atI [D.str "any", D.str "first", D.str "last", D.str "none"] i = some (.str ag) ∧ Ag ag := by
  have : i = 0 ∨ i = 1 ∨ i = 2 ∨ i = 3 := by omega
  rcases this with e | e | e | e <;> subst e
  · exact ⟨_, rfl, .any⟩
  · exact ⟨_, rfl, .first⟩
  · exact ⟨_, rfl, .last⟩
  · exact ⟨_, rfl, .none⟩
theorem m_ruleD (h0 : 0 ≤ a0) (h1 : 0 ≤ a1) (h2 : 0 ≤ a2) (h3 : 0 ≤ a3) (h4 : 0 ≤ a4) : ∃ room g kd ag, Drawn room g kd ag ∧ val f_law_rule_drawn [rowD a0 a1 a2 a3 a4 a5 a6 a7 a8 a9 a10 a11 a12 a13] = some (.ok (.tup [.int room, .int g, .str kd, .str ag])) := by
  obtain ⟨ag, eag, hag⟩ := ag_of (i := a4 % 4) (by omega) (by omega)
  have l6 : lenOk 6 = true := by decide +kernel
  have l4 : lenOk 4 = true := by decide +kernel
  have fin : ∀ (room : Int) (c : 1 ≤ room ∧ room ≤ 1000) (e : (if a1 % 6 = 1 then 1 + a0 % 1000 else 1 + a0 % 9) = room), ∃ room g kd ag, Drawn room g kd ag ∧ val f_law_rule_drawn [rowD a0 a1 a2 a3 a4 a5 a6 a7 a8 a9 a10 a11 a12 a13] = some (.ok (.tup [.int room, .int g, .str kd, .str ag])) := by
    intro room c e
    have way : a3 % 6 = 0 ∨ a3 % 6 = 1 ∨ a3 % 6 = 2 ∨ a3 % 6 = 3 ∨ a3 % 6 = 4 ∨ a3 % 6 = 5 := by omega
    have go : ∀ (n x : Int) (kd : Str) (q : Str), atI [D.int 1, D.int (2 + a2 % 9), D.int 0, D.int 0, D.int 1, D.int (2 + a2 % 999)] (a3 % 6) = some (.int n) → strD [.int n] = some (.str q) → lenOk (("every " : Str).length + q.length) = true →
        atI [D.str "each", D.str ("every " ++ q), D.str "free", D.str "fresh", D.str "each", D.str ("every " ++ q)] (a3 % 6) = some (.str kd) → val f_law_rule_drawn [rowD a0 a1 a2 a3 a4 a5 a6 a7 a8 a9 a10 a11 a12 a13] = some (.ok (.tup [.int room, .int n, .str kd, .str ag])) := by
      intro n x kd q e1 e2 e3 e4
      by_cases hb : a1 % 6 = 1
      · rw [if_pos hb] at e; simp [f_law_rule_drawn, b_law_rule_drawn, val_sem, hb, l6, l4, e1, e2, e3, e4, eag, e]
      · rw [if_neg hb] at e; simp [f_law_rule_drawn, b_law_rule_drawn, val_sem, hb, l6, l4, e1, e2, e3, e4, eag, e]
    rcases way with hw | hw | hw | hw | hw | hw
    · obtain ⟨q, s1, s2, _⟩ := str_of (n := 1) (by omega) (by omega)
      exact ⟨room, 1, "each", ag, ⟨c.1, c.2, by omega, by omega, g_each, hag, .grp (by omega) (by decide) (by decide)⟩, go 1 0 _ q (by rw [hw]; rfl) s1 s2 (by rw [hw]; rfl)⟩
    · obtain ⟨q, s1, s2, s3⟩ := str_of (n := 2 + a2 % 9) (by omega) (by omega)
      exact ⟨room, 2 + a2 % 9, _, ag, ⟨c.1, c.2, by omega, by omega, (s3 (by omega)).1, hag, (s3 (by omega)).2⟩, go _ 0 _ q (by rw [hw]; rfl) s1 s2 (by rw [hw]; rfl)⟩
    · obtain ⟨q, s1, s2, _⟩ := str_of (n := 0) (by omega) (by omega)
      exact ⟨room, 0, "free", ag, ⟨c.1, c.2, by omega, by omega, g_free, hag, .free⟩, go 0 0 _ q (by rw [hw]; rfl) s1 s2 (by rw [hw]; rfl)⟩
    · obtain ⟨q, s1, s2, _⟩ := str_of (n := 0) (by omega) (by omega)
      exact ⟨room, 0, "fresh", ag, ⟨c.1, c.2, by omega, by omega, g_fresh, hag, .fresh⟩, go 0 0 _ q (by rw [hw]; rfl) s1 s2 (by rw [hw]; rfl)⟩
    · obtain ⟨q, s1, s2, _⟩ := str_of (n := 1) (by omega) (by omega)
      exact ⟨room, 1, "each", ag, ⟨c.1, c.2, by omega, by omega, g_each, hag, .grp (by omega) (by decide) (by decide)⟩, go 1 0 _ q (by rw [hw]; rfl) s1 s2 (by rw [hw]; rfl)⟩
    · obtain ⟨q, s1, s2, s3⟩ := str_of (n := 2 + a2 % 999) (by omega) (by omega)
      exact ⟨room, 2 + a2 % 999, _, ag, ⟨c.1, c.2, by omega, by omega, (s3 (by omega)).1, hag, (s3 (by omega)).2⟩, go _ 0 _ q (by rw [hw]; rfl) s1 s2 (by rw [hw]; rfl)⟩
  by_cases hb : a1 % 6 = 1
  · exact fin (1 + a0 % 1000) (by omega) (if_pos hb)
  · exact fin (1 + a0 % 9) (by omega) (if_neg hb)
theorem ite3 {p q : Prop} [Decidable p] [Decidable q] {l a b c : Int} (h1 : l ≤ a) (h2 : l ≤ b) (h3 : l ≤ c) : l ≤ (if p then a else if q then b else c) := by
  split
  · exact h1
  · split
    · exact h2
    · exact h3
theorem ite4 {p q : Prop} [Decidable p] [Decidable q] {l a b c : Int} (h1 : a ≤ l) (h2 : b ≤ l) (h3 : c ≤ l) : (if p then a else if q then b else c) ≤ l := by
  split
  · exact h1
  · split
    · exact h2
    · exact h3
theorem rate_of {i : Int} (h0 : 0 ≤ i) (h1 : i < 7) : ∃ r, atI [D.int 1, D.int 7, D.int 11, D.int 13, D.int 77, D.int 91, D.int 143] i = some (.int r) ∧ 1 ≤ r ∧ r ≤ 1000 := by
  have : i = 0 ∨ i = 1 ∨ i = 2 ∨ i = 3 ∨ i = 4 ∨ i = 5 ∨ i = 6 := by omega
  rcases this with e | e | e | e | e | e | e <;> subst e <;> exact ⟨_, rfl, by decide, by decide⟩
theorem most_b (h1 : 1 ≤ r) (h2 : r ≤ 1000) : 0 ≤ 1001 / r - 1 ∧ 1001 / r - 1 ≤ 1000 ∧ r * (1001 / r - 1 + 1) ≤ 1001 := by
  have a : 1 ≤ 1001 / r := (Int.le_ediv_iff_mul_le (by omega)).mpr (by omega)
  have b : 1001 / r ≤ 1001 := Int.ediv_le_self _ (by omega)
  have c := Int.mul_ediv_self_le (x := 1001) (k := r) (by omega)
  rw [show 1001 / r - 1 + 1 = 1001 / r by omega]
  omega
theorem m_lifeD (h5 : 0 ≤ a5) (h6 : 0 ≤ a6) (h7 : 0 ≤ a7) (h8 : 0 ≤ a8) : ∃ t r, 1 ≤ r ∧ r ≤ 1000 ∧ 0 ≤ t ∧ t ≤ 1001 / r - 1 ∧ val f_law_life_drawn [rowD a0 a1 a2 a3 a4 a5 a6 a7 a8 a9 a10 a11 a12 a13] = some (.ok (.tup [.int t, .int r])) := by
  have l7 : lenOk 7 = true := by decide +kernel
  have l2 : lenOk 2 = true := by decide +kernel
  obtain ⟨r2, er2, hr1, hr2⟩ := rate_of (i := a5 % 7) (by omega) (by omega)
  have tail : ∀ r, 1 ≤ r → r ≤ 1000 → (if a6 % 6 = 2 then r2 else if a6 % 6 = 1 then 1 + a5 % 1000 else 1 + a5 % 9) = r → ∃ t r, 1 ≤ r ∧ r ≤ 1000 ∧ 0 ≤ t ∧ t ≤ 1001 / r - 1 ∧ val f_law_life_drawn [rowD a0 a1 a2 a3 a4 a5 a6 a7 a8 a9 a10 a11 a12 a13] = some (.ok (.tup [.int t, .int r])) := by
    intro r p1 p2 er
    obtain ⟨b1, b2, _⟩ := most_b p1 p2
    generalize em : 1001 / r - 1 = M at b1 b2
    have dv : divOk r = true := divOk_s (by omega) (by omega)
    have mm : 0 < (if 50 < M then 50 else M) + 1 := by split <;> omega
    have mm2 : (if 50 < M then 50 else M) + 1 ≤ M + 1 := by split <;> omega
    have q1 := Int.emod_nonneg a7 (show (if 50 < M then 50 else M) + 1 ≠ 0 by omega)
    have q2 := Int.emod_lt_of_pos a7 mm
    have q3 := Int.emod_nonneg a7 (show M + 1 ≠ 0 by omega)
    have q4 := Int.emod_lt_of_pos a7 (show 0 < M + 1 by omega)
    have mm3 : 0 < M + 1 := by omega
    refine ⟨if a8 % 4 = 2 then M else if a8 % 4 = 1 then a7 % (M + 1) else a7 % ((if 50 < M then 50 else M) + 1), r, p1, p2, by exact ite3 (by omega) (by omega) (by omega), by rw [em]; exact ite4 (by omega) (by omega) (by omega), ?_⟩
    have sr : ∀ x y, a6 % 6 = x → a8 % 4 = y → x = x := fun _ _ _ _ => rfl
    by_cases c1 : a6 % 6 = 1
    · rw [if_neg (by omega), if_pos c1] at er
      by_cases d1 : a8 % 4 = 1
      · simp [f_law_life_drawn, b_law_life_drawn, val_sem, l7, l2, c1, d1, er2, er, dv, em, mm, mm3]
      · by_cases d2 : a8 % 4 = 2
        · simp [f_law_life_drawn, b_law_life_drawn, val_sem, l7, l2, c1, d1, d2, er2, er, dv, em, mm, mm3]
        · simp [f_law_life_drawn, b_law_life_drawn, val_sem, l7, l2, c1, d1, d2, er2, er, dv, em, mm, mm3]
    · by_cases c2 : a6 % 6 = 2
      · rw [if_pos c2] at er
        by_cases d1 : a8 % 4 = 1
        · simp [f_law_life_drawn, b_law_life_drawn, val_sem, l7, l2, c1, c2, d1, er2, er, dv, em, mm, mm3]
        · by_cases d2 : a8 % 4 = 2
          · simp [f_law_life_drawn, b_law_life_drawn, val_sem, l7, l2, c1, c2, d1, d2, er2, er, dv, em, mm, mm3]
          · simp [f_law_life_drawn, b_law_life_drawn, val_sem, l7, l2, c1, c2, d1, d2, er2, er, dv, em, mm, mm3]
      · rw [if_neg c2, if_neg c1] at er
        by_cases d1 : a8 % 4 = 1
        · simp [f_law_life_drawn, b_law_life_drawn, val_sem, l7, l2, c1, c2, d1, er2, er, dv, em, mm, mm3]
        · by_cases d2 : a8 % 4 = 2
          · simp [f_law_life_drawn, b_law_life_drawn, val_sem, l7, l2, c1, c2, d1, d2, er2, er, dv, em, mm, mm3]
          · simp [f_law_life_drawn, b_law_life_drawn, val_sem, l7, l2, c1, c2, d1, d2, er2, er, dv, em, mm, mm3]
  refine tail _ ?_ ?_ rfl
  · exact ite3 (by omega) (by omega) (by omega)
  · exact ite4 (by omega) (by omega) (by omega)
end
end K89

namespace K89
open PySem L2 PySem.Spec PyProof.Rows ClX Y
section
def Big : Nat := 2 ^ 2000000
abbrev nsD (ns : List Int) : List D := ns.map .int
theorem frzs_ints : ∀ ns : List Int, D.frzs (nsD ns) = true
  | [] => rfl
  | n :: ns => by show (true && D.frzs (nsD ns)) = true; rw [frzs_ints ns]; rfl
theorem frs_ints : ∀ ns : List Int, D.frs (nsD ns) = nsD ns
  | [] => rfl
  | n :: ns => by show D.int n :: D.frs (nsD ns) = _; rw [frs_ints ns]; rfl
theorem m_cell (ns : List Int) {i : Int} (h : 0 ≤ i) : ∃ c, val f_law_cell [.scr (nsD ns), .int i] = some (.ok (.int c)) ∧ (c = 0 ∨ c ∈ ns) := by
  obtain ⟨n, rfl⟩ := Int.eq_ofNat_of_zero_le h
  by_cases hn : n < ns.length
  · refine ⟨ns[n], ?_, .inr (List.getElem_mem _)⟩
    have e : atI (nsD ns) (n : Int) = some (.int ns[n]) := by rw [at_nat]; simp [hn]
    have e2 : ((n : Int) < (ns.length : Int)) := by omega
    simp [f_law_cell, b_law_cell, val_sem, e, e2, -List.length_map, List.length_map]
  · refine ⟨0, ?_, .inl rfl⟩
    have e2 : ¬ ((n : Int) < (ns.length : Int)) := by omega
    simp [f_law_cell, b_law_cell, val_sem, e2]
theorem m_mix {c n : Int} (hc : c.natAbs < Big) (h0 : 0 ≤ n) (h1 : n ≤ 1000) : ∃ r, val f_law_mix [.int c, .int n] = some (.ok (.int r)) ∧ 0 ≤ r := by
  have m1 : mulOk c 48271 = true := mulOk_of 2000000 20 (by decide) (by decide) (by decide) hc (by decide)
  have m2 : mulOk (n + 1) 69621 = true := mulOk_s (by omega) (by omega) (by omega) (by omega)
  have m3 : mulOk (n + 3) 40692 = true := mulOk_s (by omega) (by omega) (by omega) (by omega)
  have d : divOk 13 = true := divOk_s (by omega) (by omega)
  generalize hx : (c * 48271 + (n + 1) * 69621) % 2147483647 = x
  have x0 : 0 ≤ x ∧ x < 2147483647 := by omega
  have m4 : mulOk x x = true := mulOk_s (by omega) (by omega) (by omega) (by omega)
  generalize hy : (x * x + (n + 3) * 40692) % 2147483629 = y
  have y0 : 0 ≤ y ∧ y < 2147483629 := by omega
  have m5 : mulOk y y = true := mulOk_s (by omega) (by omega) (by omega) (by omega)
  refine ⟨(y * y + x) % 2147483587 / 13, ?_, by omega⟩
  simp [f_law_mix, b_law_mix, val_sem, m1, m2, hx, m3, m4, hy, m5, d]
theorem mem_int {ns : List Int} {c : Int} (B : ∀ n ∈ ns, n.natAbs < Big) (h : c = 0 ∨ c ∈ ns) : c.natAbs < Big := by
  rcases h with h | h
  · subst h; exact Nat.pow_pos (n := 2000000) (by decide)
  · exact B c h
theorem size15 {n : Nat} (h : n ≤ 100) : n < sizeLine := Nat.lt_of_le_of_lt h (by decide +kernel)
abbrev b1 : SM := (sIf (tM (mP (pBin gtD (pVar 4) (pC (.int 0))))) (sSeq (sDrop (mApp 3 (mP (pBin modD (pB intD (plCons (pVar 4) plNil)) (pC (.int 1009))))))
    (sSet 4 (mP (pBin divD (pB intD (plCons (pVar 4) plNil)) (pC (.int 1009)))))) sNext)
theorem loop1 (ns : List Int) : ∀ (ds : List D) {vs : List Int} {v : Int} {y : D}, (∀ x ∈ vs, 0 ≤ x) → vs.length + ds.length ≤ 14 →
    ∃ vs' v' y', loopL (gN 5) b1 ds [.scr (nsD ns), .int 0, .int 14, .lst true (nsD vs), .int v, y] = some (.next, [.scr (nsD ns), .int 0, .int 14, .lst true (nsD vs'), .int v', y']) ∧ (∀ x ∈ vs', 0 ≤ x) ∧ vs'.length ≤ 14
  | [], vs, v, y, h, hl => ⟨vs, v, y, by simp [loopL], h, by simpa using hl⟩
  | d :: ds, vs, v, y, h, hl => by
    rw [List.length_cons] at hl
    by_cases hv : 0 < v
    · obtain ⟨vs', v', y', e, a, b⟩ := loop1 ns ds (vs := vs ++ [v % 1009]) (v := v / 1009) (y := d) (fun x hx => by
        rcases List.mem_append.mp hx with z | z
        · exact h x z
        · rw [List.mem_singleton.mp z]; omega) (by simp; omega)
      refine ⟨vs', v', y', ?_, a, b⟩
      have s1 : vs.length < sizeLine := size15 (by omega)
      have d1 : divOk 1009 = true := divOk_s (by omega) (by omega)
      simp [nsD] at e
      simp [loopL, hv, s1, d1, nsD, e]
    · obtain ⟨vs', v', y', e, a, b⟩ := loop1 ns ds (vs := vs) (v := v) (y := d) h (by omega)
      refine ⟨vs', v', y', ?_, a, b⟩
      simp [loopL, hv, e]
abbrev b2 : SM := (sDrop (mApp 3 (mCall 2 f_law_mix (aCons (mCall 2 f_law_cell (aCons (mVal 0) (aCons (mP (pBin modD (pBin addD (pVar 1) (pVar 5)) (pB maxD (plCons (pC (.int 1)) (plCons (pB lenD (plCons (pVar 0) plNil)) plNil))))) aNil))) (aCons (mP (pBin addD (pVar 1) (pVar 5))) aNil)))))
theorem loop2 (ns : List Int) (B : ∀ n ∈ ns, n.natAbs < Big) : ∀ (ks : List Int) {vs : List Int} {v : Int} {y : D}, (∀ k ∈ ks, 0 ≤ k ∧ k ≤ 1000) → (∀ x ∈ vs, 0 ≤ x) → vs.length + ks.length ≤ 14 →
    ∃ vs' y', loopL (gN 5) b2 (nsD ks) [.scr (nsD ns), .int 0, .int 14, .lst true (nsD vs), .int v, y] = some (.next, [.scr (nsD ns), .int 0, .int 14, .lst true (nsD vs'), .int v, y']) ∧ (∀ x ∈ vs', 0 ≤ x) ∧ vs'.length = vs.length + ks.length
  | [], vs, v, y, _, h, hl => ⟨vs, y, by simp [loopL], h, by simp⟩
  | k :: ks, vs, v, y, hk, h, hl => by
    rw [List.length_cons] at hl
    have k0 := hk k (List.mem_cons_self ..)
    have mp : 0 < (if (ns.length : Int) > 1 then (ns.length : Int) else 1) := by split <;> omega
    obtain ⟨c, ec, hc⟩ := m_cell ns (i := (0 + k) % (if (ns.length : Int) > 1 then (ns.length : Int) else 1)) (Int.emod_nonneg _ (by omega))
    obtain ⟨r, er, hr⟩ := m_mix (c := c) (n := 0 + k) (mem_int B hc) (by omega) (by omega)
    obtain ⟨vs', y', e, a, b⟩ := loop2 ns B ks (vs := vs ++ [r]) (v := v) (y := .int k) (fun k hk' => hk k (List.mem_cons_of_mem _ hk')) (fun x hx => by
        rcases List.mem_append.mp hx with z | z
        · exact h x z
        · rw [List.mem_singleton.mp z]; exact hr) (by simp; omega)
    refine ⟨vs', y', ?_, a, by rw [b]; simp; omega⟩
    have s1 : vs.length < sizeLine := size15 (by omega)
    have f1 := frzs_ints ns
    have f2 := frs_ints ns
    simp only [Int.zero_add] at ec er
    simp [nsD] at e ec er f1 f2
    simp [loopL, s1, nsD, e, ec, er, f1, f2, mp]
theorem rng14 (n : Nat) : rngD (n : Int) 14 = nsD ((List.range ((14 : Int) - n).toNat).map fun (i : Nat) => (n : Int) + i) := by
  unfold rngD nsD
  rw [List.map_map]
  rfl
theorem sq {s t : SM} {env e1 : List D} (h : s env = some (.next, e1)) : sSeq s t env = t e1 := by unfold sSeq; rw [h]
theorem sIf_t {t : MT} {s u : SM} {env e1 : List D} (h : t env = some (.ok true, e1)) : sIf t s u env = s e1 := by unfold sIf; rw [h]
theorem sIf_f {t : MT} {s u : SM} {env e1 : List D} (h : t env = some (.ok false, e1)) : sIf t s u env = u e1 := by unfold sIf; rw [h]
theorem val_ret {n : Nat} {b : SM} {ds e : List D} {d : D} (h : b (ds ++ List.replicate (n - ds.length) .unk) = some (.ret d, e)) : val (semG n b) ds = some (.ok d) := by rw [val_sem, h]
theorem m_nums (ns : List Int) (B : ∀ n ∈ ns, n.natAbs < Big) : ∃ vs : List Int, val f_law_numbers [.scr (nsD ns), .int 0, .int 14] = some (.ok (.lst true (nsD vs))) ∧ (∀ x ∈ vs, 0 ≤ x) ∧ vs.length = 14 := by
  obtain ⟨c, ec, hc⟩ := m_cell ns (i := 0) (by omega)
  have f1 := frzs_ints ns
  have f2 := frs_ints ns
  have p1 : powOk 10 18 = true := by decide +kernel
  have l0 : lenOk 0 = true := by decide +kernel
  have r14 : rngOk 14 = true := by decide +kernel
  have e2 : ∀ (vs : List Int) (v : Int) (y : D), (∀ x ∈ vs, 0 ≤ x) → vs.length ≤ 14 → ∃ vs' y', loopL (gN 5) b2 (rngD (vs.length : Int) 14) [.scr (nsD ns), .int 0, .int 14, .lst true (nsD vs), .int v, y] = some (.next, [.scr (nsD ns), .int 0, .int 14, .lst true (nsD vs'), .int v, y']) ∧ (∀ x ∈ vs', 0 ≤ x) ∧ vs'.length = 14 := by
    intro vs v y h hl
    rw [rng14]
    obtain ⟨vs', y', e, a, b⟩ := loop2 ns B ((List.range ((14 : Int) - vs.length).toNat).map fun (i : Nat) => (vs.length : Int) + i) (vs := vs) (v := v) (y := y) (fun k hk => by
      obtain ⟨i, hi, rfl⟩ := List.mem_map.mp hk
      have := List.mem_range.mp hi
      omega) h (by simp; omega)
    exact ⟨vs', y', e, a, by rw [b]; simp; omega⟩
  have rl : ∀ vs : List Int, vs.length ≤ 14 → rngOk (vs.length : Int) = true := fun vs h => by
    unfold rngOk
    rw [Bool.and_eq_true]
    exact ⟨decide_eq_true (by omega), decide_eq_true (by omega)⟩
  obtain ⟨v, hv⟩ : ∃ v, (if c < 0 then -c else c) = v := ⟨_, rfl⟩
  have fin : ∀ (vs : List Int) (v : Int) (y : D), (∀ x ∈ vs, 0 ≤ x) → vs.length ≤ 14 → ∃ vs', (∃ e, sSeq (sForR2 (aCons (mP (pB lenD (plCons (pVar 3) plNil))) (aCons (mVal 2) aNil)) (gN 5) b2) (sRet (mTake 3)) [.scr (nsD ns), .int 0, .int 14, .lst true (nsD vs), .int v, y] = some (.ret (.lst true (nsD vs')), e)) ∧ (∀ x ∈ vs', 0 ≤ x) ∧ vs'.length = 14 := by
    intro vs v y h hl
    obtain ⟨vs', y', e3, a, l⟩ := e2 vs v y h hl
    have q := rl vs hl
    have e4 : sForR2 (aCons (mP (pB lenD (plCons (pVar 3) plNil))) (aCons (mVal 2) aNil)) (gN 5) b2 [.scr (nsD ns), .int 0, .int 14, .lst true (nsD vs), .int v, y] = some (.next, [.scr (nsD ns), .int 0, .int 14, .lst true (nsD vs'), .int v, y']) := by
      rw [← e3]
      simp [nsD, q, r14]
    refine ⟨vs', ⟨[.scr (nsD ns), .int 0, .int 14, .unk, .int v, y'], ?_⟩, a, l⟩
    rw [sq e4]
    simp
  have head : ∀ (T : SM) (o : D) (e : List D), T [.scr (nsD ns), .int 0, .int 14, .lst true [], .int v, .unk] = some (.ret o, e) →
      (sSeq (sSet 3 (mLst aNil)) (sSeq (sSet 4 (mB absD (aCons (mCall 2 f_law_cell (aCons (mVal 0) (aCons (mVal 1) aNil))) aNil))) T)) ([.scr (nsD ns), .int 0, .int 14] ++ List.replicate (6 - 3) .unk) = some (.ret o, e) := by
    intro T o e h
    simp only [nsD] at f1 f2 ec h
    simp [l0, nsD, f1, f2, ec, hv, h]
  have tst : (tM (mP (pBin geD (pVar 4) (pBin powD (pC (.int 10)) (pC (.int 18)))))) [.scr (nsD ns), .int 0, .int 14, .lst true [], .int v, .unk] = some (.ok (decide (1000000000000000000 ≤ v)), [.scr (nsD ns), .int 0, .int 14, .lst true [], .int v, .unk]) := by
    simp [p1]
  by_cases hb : (1000000000000000000 : Int) ≤ v
  · obtain ⟨vs1, v1, y1, e1, a1, l1⟩ := loop1 ns (rngD 0 14) (vs := []) (v := v) (y := .unk) (by simp) (by decide)
    obtain ⟨vs, ⟨e, e5⟩, a, l⟩ := fin vs1 v1 y1 a1 l1
    refine ⟨vs, ?_, a, l⟩
    have e6 : sForR1 (aCons (mVal 2) aNil) (gN 5) b1 [.scr (nsD ns), .int 0, .int 14, .lst true [], .int v, .unk] = some (.next, [.scr (nsD ns), .int 0, .int 14, .lst true (nsD vs1), .int v1, y1]) := by
      rw [← e1]
      simp [r14]
    rw [decide_eq_true hb] at tst
    have e7 := head (sSeq (sIf _ (sForR1 _ _ _) sNext) _) _ _ ((sq ((sIf_t tst).trans e6)).trans e5)
    exact val_ret e7
  · obtain ⟨vs, ⟨e, e5⟩, a, l⟩ := fin [] v .unk (by simp) (by decide)
    refine ⟨vs, ?_, a, l⟩
    rw [decide_eq_false hb] at tst
    have e7 := head (sSeq (sIf _ (sForR1 (aCons (mVal 2) aNil) (gN 5) b1) sNext) _) _ _ ((sq ((sIf_f tst).trans rfl)).trans e5)
    exact val_ret e7
end
end K89

namespace K89
open PySem L2 PySem.Spec PyProof.Rows ClX Y
section
variable {w room g k j N r H t : Int} {kd ag : Str}
variable {a0 a1 a2 a3 a4 a5 a6 a7 a8 a9 a10 a11 a12 a13 : Int}
theorem sz_of (d : Drawn room g kd ag) (hw : 1 ≤ w) (hw2 : w ≤ 1000) (k1 : 0 ≤ k) (k2 : k ≤ 1000) (j1 : 0 ≤ j) (j2 : j ≤ 1000) : Sz w room g k j := ⟨hw, hw2, d.r1, d.r2, d.g1, d.g2, k1, k2, j1, j2⟩
theorem ten14 {vs : List Int} (h : vs.length = 14) : ∃ a0 a1 a2 a3 a4 a5 a6 a7 a8 a9 a10 a11 a12 a13, vs = [a0, a1, a2, a3, a4, a5, a6, a7, a8, a9, a10, a11, a12, a13] := by
  match vs, h with
  | [a0, a1, a2, a3, a4, a5, a6, a7, a8, a9, a10, a11, a12, a13], _ => exact ⟨_, _, _, _, _, _, _, _, _, _, _, _, _, _, rfl⟩
abbrev tlL : SM := (sSeq (sSet 5 (mP (pBin subD (pBin mulD (pVar 15) (pBin addD (pVar 14) (pC (.int 1)))) (pC (.int 1)))))
    (sSeq (sSet 6 (mBin addD (mBin subD (mCall 7 f_law_least (aCons (mVal 4) (aCons (mVal 10) (aCons (mVal 11) (aCons (mVal 12) (aCons (mVal 13) (aCons (mVal 5) (aCons (mVal 3) aNil)))))))) (mP (pC (.int 1)))) (mP (pBin modD (pIx (pVar 1) (pC (.int 13))) (pC (.int 3))))))
    (sSeq (sSet 7 (mMake 37 3 f_Lifetime_init (aCons (mVal 14) (aCons (mVal 15) aNil))))
    (sSeq (sSet 8 (mCall 2 f_lifetime_channel (aCons (mVal 7) (aCons (mVal 3) aNil))))
    (sSeq (sIf (tOrM (tNotM (tM (mCall 2 f_law_like (aCons (mCall 1 f_lag (aCons (mVal 7) aNil)) (aCons (mVal 5) aNil))))) (tOrM (tNotM (tM (mP (pUn (isOwnD 18 [18]) (pVar 8))))) (tNotM (tM (mCall 2 f_law_like (aCons (mFz 8 (mMeth 18 1 f_Channel_fields (pVar 8) aNil)) (aCons (mP (pTup (plCons (pVar 5) (plCons (pVar 3) plNil)))) aNil))))))) (sRet (mP (pC (.bl false)))) sNext)
    (sSeq (sSet 9 (mCall 7 f_law_window (aCons (mVal 10) (aCons (mVal 11) (aCons (mVal 12) (aCons (mVal 13) (aCons (mVal 5) (aCons (mVal 3) (aCons (mVal 6) aNil)))))))))
    (sSeq (sIf (tNotM (tM (mCall 2 f_law_like (aCons (mCallK 2 3 f_largest_window (aCons (mVal 8) (aCons (mVal 6) aNil)) (aCons (mVal 10) (aCons (mVal 12) (aCons (mVal 13) aNil)))) (aCons (mVal 9) aNil))))) (sRet (mP (pC (.bl false)))) sNext)
    (sSeq (sIf (tAndM (tM (mP (pBin gtD (pVar 9) (pC (.int 0))))) (tNotM (tM (mCall 7 f_law_side (aCons (mVal 9) (aCons (mVal 2) (aCons (mVal 14) (aCons (mVal 15) (aCons (mVal 3) (aCons (mVal 6) (aCons (mP (pC (.bl true))) aNil))))))))))) (sRet (mP (pC (.bl false)))) sNext)
    (sRet (mOrV (mP (pBin eqD (pVar 9) (pC (.int 1000)))) (mCall 7 f_law_side (aCons (mP (pBin addD (pVar 9) (pC (.int 1)))) (aCons (mVal 2) (aCons (mVal 14) (aCons (mVal 15) (aCons (mVal 3) (aCons (mVal 6) (aCons (mP (pC (.bl false))) aNil))))))))))))))))))
def valS (b : SM) (env : List D) : Option R := match b env with
    | some (.ret d, _) => some (.ok d)
    | some (.next, _) => some (.ok .non)
    | some (.exc x, _) => some (.error x)
    | _ => none
theorem val_sem' {n : Nat} {b : SM} {ds : List D} : val (semG n b) ds = valS b (ds ++ List.replicate (n - ds.length) .unk) := val_sem
theorem vs_seq {s t : SM} {env e1 : List D} (h : s env = some (.next, e1)) : valS (sSeq s t) env = valS t e1 := by unfold valS; rw [sq h]
/-- the law's first half: what is drawn -/
def jj (a9 a10 : Int) : Int := if a10 % 6 = 1 then a9 % 1001 else a9 % 6
def sz (a11 a12 : Int) : Int := if a12 % 8 = 3 then 1000 - a11 % 2 else if a12 % 4 = 2 then 1 else if a12 % 4 = 1 then 1 + a11 % 1000 else 1 + a11 % 40
theorem m_law (ns : List Int) (B : ∀ n ∈ ns, n.natAbs < Big) : val f_law [.scr (nsD ns)] = some (.ok (.bl true)) := by
  obtain ⟨vs, en, pos, hl⟩ := m_nums ns B
  obtain ⟨a0, a1, a2, a3, a4, a5, a6, a7, a8, a9, a10, a11, a12, a13, rfl⟩ := ten14 hl
  have p : 0 ≤ a0 ∧ 0 ≤ a1 ∧ 0 ≤ a2 ∧ 0 ≤ a3 ∧ 0 ≤ a4 ∧ 0 ≤ a5 ∧ 0 ≤ a6 ∧ 0 ≤ a7 ∧ 0 ≤ a8 ∧ 0 ≤ a9 ∧ 0 ≤ a10 ∧ 0 ≤ a11 ∧ 0 ≤ a12 ∧ 0 ≤ a13 := by simpa using pos
  obtain ⟨p0, p1, p2, p3, p4, p5, p6, p7, p8, p9, p10, p11, p12, p13⟩ := p
  obtain ⟨room, g, kd, ag, dr, erule⟩ := m_ruleD (a0 := a0) (a1 := a1) (a2 := a2) (a3 := a3) (a4 := a4) (a5 := a5) (a6 := a6) (a7 := a7) (a8 := a8) (a9 := a9) (a10 := a10) (a11 := a11) (a12 := a12) (a13 := a13) p0 p1 p2 p3 p4
  obtain ⟨t, r, hr, hr2, t0, tH, elife⟩ := m_lifeD (a0 := a0) (a1 := a1) (a2 := a2) (a3 := a3) (a4 := a4) (a5 := a5) (a6 := a6) (a7 := a7) (a8 := a8) (a9 := a9) (a10 := a10) (a11 := a11) (a12 := a12) (a13 := a13) p5 p6 p7 p8
  obtain ⟨H0, H2, H3⟩ := most_b hr hr2
  have f1 := frzs_ints ns
  have f2 := frs_ints ns
  have hj : 0 ≤ jj a9 a10 ∧ jj a9 a10 ≤ 1000 := by unfold jj; split <;> omega
  have hs : 1 ≤ sz a11 a12 ∧ sz a11 a12 ≤ 1000 := by
    unfold sz
    split
    · omega
    · split
      · omega
      · split <;> omega
  have lateB : ∀ m, 0 ≤ m → m ≤ 1001 / r - 1 → 0 ≤ r * (m + 1) - 1 ∧ r * (m + 1) - 1 ≤ 1000 := fun m h1 h2 => by
    have a := Int.mul_le_mul_of_nonneg_left (a := m + 1) (b := 1001 / r - 1 + 1) (c := r) (by omega) (by omega)
    have b := Int.mul_le_mul (a := 1) (b := 1) (c := r) (d := m + 1) hr (by omega) (by omega) (by omega)
    omega
  have S : ∀ w m, 1 ≤ w → w ≤ 1000 → 0 ≤ m → m ≤ 1001 / r - 1 → Sz w room g (r * (m + 1) - 1) (jj a9 a10) := fun w m h1 h2 h3 h4 => sz_of dr h1 h2 (lateB m h3 h4).1 (lateB m h3 h4).2 hj.1 hj.2
  have t1000 : t ≤ 1000 := by omega
  have S0 := S (sz a11 a12) t hs.1 hs.2 t0 tH
  have LB := ll_b (kd := kd) (ag := ag) S0
  obtain ⟨N, eN⟩ : ∃ N, LL (sz a11 a12) room g (r * (t + 1) - 1) (jj a9 a10) kd ag - 1 + a13 % 3 = N := ⟨_, rfl⟩
  have n1 : 1 ≤ N := by omega
  have n2 : N ≤ 2000000 := by omega
  have mL := m_LL S0 dr.ag dr.kf
  have m1 : mulOk r (t + 1) = true := mulOk_s (by omega) (by omega) (by omega) (by omega)
  have ml := m_Life t0 t1000 hr hr2
  have mg := m_lag t0 t1000 hr hr2
  have mc := m_lchan t0 t1000 hr hr2 S0
  have lk : ∀ a, val f_law_like [.int a, .int a] = some (.ok (.bl true)) := fun a => m_likeI (n := 5)
  have lp : ∀ a b, val f_law_like [.tup [.int a, .int b], .tup [.int a, .int b]] = some (.ok (.bl true)) := fun a b => m_likeP (n := 4)
  have mfl : ∀ a b, val f_Channel_fields [chanD a b] = some (.ok (.tup [.int a, .int b])) := fun a b => by
    have : lenOk 2 = true := by decide +kernel
    simp [f_Channel_fields, b_Channel_fields, val_sem, this]
  have l2 : lenOk 2 = true := by decide +kernel
  have mW := m_LW (N := N) (fun w h1 h2 => S w t h1 h2 t0 tH) dr.ag dr.kf
  have mP := m_largest (N := N) (fun w h1 h2 => S w t h1 h2 t0 tH) dr.hg dr.ag dr.kf n1 n2
  have BB := bs_ok (p := fit room g (r * (t + 1) - 1) (jj a9 a10) N kd ag) (n := 12) (lo := 0) (hi := 1000) (by omega) (by omega)
  obtain ⟨due, ed⟩ : ∃ due, bs (fit room g (r * (t + 1) - 1) (jj a9 a10) N kd ag) 12 0 1000 = due := ⟨_, rfl⟩
  rw [ed] at mW mP BB
  have side1 : 0 < due → val f_law_side [.int due, .tup [.int room, .int g, .str kd, .str ag], .int t, .int r, .int (jj a9 a10), .int N, .bl true] = some (.ok (.bl true)) := fun hd =>
    m_side true hr hr2 H2 H0 rfl (fun m h1 h2 => S due m (by omega) BB.2.1 h1 h2) dr.hg dr.ag dr.kf n1 n2 t0 tH (by
      rcases BB.2.2.1 with z | z
      · omega
      · exact z)
  have side2 : due ≠ 1000 → val f_law_side [.int (due + 1), .tup [.int room, .int g, .str kd, .str ag], .int t, .int r, .int (jj a9 a10), .int N, .bl false] = some (.ok (.bl true)) := fun hd =>
    m_side false hr hr2 H2 H0 rfl (fun m h1 h2 => S (due + 1) m (by omega) (by omega) h1 h2) dr.hg dr.ag dr.kf n1 n2 t0 tH (by
      rcases BB.2.2.2 with z | z
      · exact absurd z hd
      · exact z)
  have J : jj a9 a10 = (if a10 % 6 = 1 then a9 % 1001 else a9 % 6) := rfl
  have Z : sz a11 a12 = (if a12 % 8 = 3 then 1000 - a11 % 2 else if a12 % 4 = 2 then 1 else if a12 % 4 = 1 then 1 + a11 % 1000 else 1 + a11 % 40) := rfl
  generalize hjj : jj a9 a10 = jv at *
  generalize hsz : sz a11 a12 = sv at *
  simp only [nsD, List.map_cons, List.map_nil] at en f1 f2
  have tail : valS tlL [.scr (nsD ns), rowD a0 a1 a2 a3 a4 a5 a6 a7 a8 a9 a10 a11 a12 a13, .tup [.int room, .int g, .str kd, .str ag], .int jv, .int sv, .unk, .unk, .unk, .unk, .unk, .int room, .int g, .str kd, .str ag, .int t, .int r] = some (.ok (.bl true)) := by
    unfold tlL
    by_cases d0 : 0 < due
    · by_cases d1 : due = 1000
      · subst d1
        simp [valS, m1, mL, eN, ml, mg, mc, lk, lp, mfl, l2, mW, mP, side1]
      · simp [valS, m1, mL, eN, ml, mg, mc, lk, lp, mfl, l2, mW, mP, side1 d0, side2 d1, d0, d1]
    · have d1 : due ≠ 1000 := by omega
      simp [valS, m1, mL, eN, ml, mg, mc, lk, lp, mfl, l2, mW, mP, side2 d1, d0, d1]
  show val (semG 16 b_law) _ = _
  rw [val_sem']
  unfold b_law
  simp only [List.length_cons, List.length_nil, List.cons_append, List.nil_append]
  rw [vs_seq (e1 := [.scr (nsD ns), .lst true (nsD [a0, a1, a2, a3, a4, a5, a6, a7, a8, a9, a10, a11, a12, a13]), .unk, .unk, .unk, .unk, .unk, .unk, .unk, .unk, .unk, .unk, .unk, .unk, .unk, .unk]) (by simp [nsD, f1, f2, en])]
  rw [vs_seq (e1 := [.scr (nsD ns), rowD a0 a1 a2 a3 a4 a5 a6 a7 a8 a9 a10 a11 a12 a13, .tup [.int room, .int g, .str kd, .str ag], .unk, .unk, .unk, .unk, .unk, .unk, .unk, .unk, .unk, .unk, .unk, .unk, .unk]) (by simp [nsD, erule])]
  rw [vs_seq (e1 := [.scr (nsD ns), rowD a0 a1 a2 a3 a4 a5 a6 a7 a8 a9 a10 a11 a12 a13, .tup [.int room, .int g, .str kd, .str ag], .unk, .unk, .unk, .unk, .unk, .unk, .unk, .int room, .int g, .str kd, .str ag, .unk, .unk]) (by simp)]
  rw [vs_seq (e1 := [.scr (nsD ns), rowD a0 a1 a2 a3 a4 a5 a6 a7 a8 a9 a10 a11 a12 a13, .tup [.int room, .int g, .str kd, .str ag], .unk, .unk, .unk, .unk, .unk, .unk, .unk, .int room, .int g, .str kd, .str ag, .int t, .int r]) (by simp [elife])]
  rw [vs_seq (e1 := [.scr (nsD ns), rowD a0 a1 a2 a3 a4 a5 a6 a7 a8 a9 a10 a11 a12 a13, .tup [.int room, .int g, .str kd, .str ag], .int (a9 % 6), .unk, .unk, .unk, .unk, .unk, .unk, .int room, .int g, .str kd, .str ag, .int t, .int r]) (by simp)]
  rw [vs_seq (e1 := [.scr (nsD ns), rowD a0 a1 a2 a3 a4 a5 a6 a7 a8 a9 a10 a11 a12 a13, .tup [.int room, .int g, .str kd, .str ag], .int jv, .unk, .unk, .unk, .unk, .unk, .unk, .int room, .int g, .str kd, .str ag, .int t, .int r]) (by
    rw [J]; by_cases c : a10 % 6 = 1 <;> simp [c])]
  rw [vs_seq (e1 := [.scr (nsD ns), rowD a0 a1 a2 a3 a4 a5 a6 a7 a8 a9 a10 a11 a12 a13, .tup [.int room, .int g, .str kd, .str ag], .int jv, .int (1 + a11 % 40), .unk, .unk, .unk, .unk, .unk, .int room, .int g, .str kd, .str ag, .int t, .int r]) (by simp)]
  rw [vs_seq (e1 := [.scr (nsD ns), rowD a0 a1 a2 a3 a4 a5 a6 a7 a8 a9 a10 a11 a12 a13, .tup [.int room, .int g, .str kd, .str ag], .int jv, .int (if a12 % 4 = 1 then 1 + a11 % 1000 else 1 + a11 % 40), .unk, .unk, .unk, .unk, .unk, .int room, .int g, .str kd, .str ag, .int t, .int r]) (by
    by_cases c : a12 % 4 = 1 <;> simp [c])]
  rw [vs_seq (e1 := [.scr (nsD ns), rowD a0 a1 a2 a3 a4 a5 a6 a7 a8 a9 a10 a11 a12 a13, .tup [.int room, .int g, .str kd, .str ag], .int jv, .int (if a12 % 4 = 2 then 1 else if a12 % 4 = 1 then 1 + a11 % 1000 else 1 + a11 % 40), .unk, .unk, .unk, .unk, .unk, .int room, .int g, .str kd, .str ag, .int t, .int r]) (by
    by_cases c : a12 % 4 = 2 <;> simp [c])]
  rw [vs_seq (e1 := [.scr (nsD ns), rowD a0 a1 a2 a3 a4 a5 a6 a7 a8 a9 a10 a11 a12 a13, .tup [.int room, .int g, .str kd, .str ag], .int jv, .int sv, .unk, .unk, .unk, .unk, .unk, .int room, .int g, .str kd, .str ag, .int t, .int r]) (by
    rw [Z]; by_cases c : a12 % 8 = 3 <;> simp [c])]
  exact tail
end
end K89

namespace K89
open PySem L2 PySem.Spec PyProof.Rows ClX Y
theorem all_mk {l : PySem.W.OpenLaw} {w : World} {K : PySem.W.Frag} {h : Heap} {mg : Str → Option Value} (X : K.In h) (G : h.Ns mainGlobals mg)
    {fa C18 C37 C17 f0 f1 f2 f3 f4 f5 f6 f7 f8 f9 f10 f11 f12 f13 f14 f15 f16 f17 f18 f19 f20 f21 f22 f23 f24 f25 f26 : Addr}
    {od0 an0 od1 an1 od2 an2 od3 an3 od4 an4 od5 an5 od6 an6 od7 an7 od8 an8 od9 an9 od10 an10 od11 an11 od12 an12 od13 an13 od14 an14 od15 an15 od16 an16 od17 an17 od18 an18 od19 an19 od20 an20 od21 an21 od22 an22 od23 an23 od24 an24 od25 an25 od26 an26 : Option Addr}
    {sl0 sl1 sl2 sl3 sl4 sl5 sl6 sl7 sl8 sl9 sl10 sl11 sl12 sl13 sl14 sl15 sl16 sl17 sl18 sl19 sl20 sl21 sl22 sl23 sl24 sl25 sl26 : Array (Option Value)}
    {oc0 kV0 dc0 pm0 cd0 ct0 oc1 kV1 dc1 pm1 cd1 ct1 oc2 kV2 dc2 pm2 cd2 ct2 oc3 kV3 dc3 pm3 cd3 ct3 oc4 kV4 dc4 pm4 cd4 ct4 oc5 kV5 dc5 pm5 cd5 ct5 oc6 kV6 dc6 pm6 cd6 ct6 oc7 kV7 dc7 pm7 cd7 ct7 oc8 kV8 dc8 pm8 cd8 ct8 oc9 kV9 dc9 pm9 cd9 ct9 oc10 kV10 dc10 pm10 cd10 ct10 oc11 kV11 dc11 pm11 cd11 ct11 oc12 kV12 dc12 pm12 cd12 ct12 oc13 kV13 dc13 pm13 cd13 ct13 oc14 kV14 dc14 pm14 cd14 ct14 oc15 kV15 dc15 pm15 cd15 ct15 oc16 kV16 dc16 pm16 cd16 ct16 oc17 kV17 dc17 pm17 cd17 ct17 oc18 kV18 dc18 pm18 cd18 ct18 oc19 kV19 dc19 pm19 cd19 ct19 oc20 kV20 dc20 pm20 cd20 ct20 oc21 kV21 dc21 pm21 cd21 ct21 oc22 kV22 dc22 pm22 cd22 ct22 oc23 kV23 dc23 pm23 cd23 ct23 oc24 kV24 dc24 pm24 cd24 ct24 oc25 kV25 dc25 pm25 cd25 ct25 oc26 kV26 dc26 pm26 cd26 ct26 : Value}
    {tk0 tk1 tk2 : Tok}
    (hfa : mg "law" = some (.ref fa))
    (aC18 : PySem.W.nsIn K mainGlobals "Channel" = some (some (.ref C18)))
    (pg18 : PySem.W.plainGet K C18 Str.empty = true)
    (hd18 : PySem.W.hasDictIn K C18 = true)
    (po18 : PySem.W.plainOver K C18 = true)
    (sa18 : PySem.W.findIn K (.ref C18) "__setattr__" = some (some (.builtin "object.__setattr__")))
    (n18_13 : PySem.W.findIn K (.ref C18) "k" = some none)
    (n18_14 : PySem.W.findIn K (.ref C18) "j" = some none)
    (mk18 : PySem.W.makesIn K C18 = true)
    (kc18 : PySem.W.keepIn K (.ref C18) = true)
    (ic18 : PySem.W.isClsIn K C18 = true)
    (ty18 : PySem.W.typeIn K (.ref C18) = some (.type "type"))
    (i18_0 : PySem.W.subIn K (.type "NoneType") (.ref C18) = some false)
    (i18_1 : PySem.W.subIn K (.type "bool") (.ref C18) = some false)
    (i18_2 : PySem.W.subIn K (.type "int") (.ref C18) = some false)
    (i18_3 : PySem.W.subIn K (.type "str") (.ref C18) = some false)
    (i18_4 : PySem.W.subIn K (.type "tuple") (.ref C18) = some false)
    (i18_5 : PySem.W.subIn K (.type "list") (.ref C18) = some false)
    (i18_6 : PySem.W.subIn K (.type "dict") (.ref C18) = some false)
    (t18_a : PySem.W.findIn K (.ref C18) "__class__" = some (some (.builtin "object.__class__")))
    (t18_b : PySem.W.specialIn K (.builtin "object.__class__") "__get__" = some (some (.builtin "getset_descriptor.__get__")))
    (t18_c : PySem.W.takesIn K (.builtin "object.__class__") = some true)
    (t18_d : PySem.W.mroIn K C18 (.type "object") = some true)
    (aC37 : PySem.W.nsIn K mainGlobals "Lifetime" = some (some (.ref C37)))
    (pg37 : PySem.W.plainGet K C37 Str.empty = true)
    (hd37 : PySem.W.hasDictIn K C37 = true)
    (po37 : PySem.W.plainOver K C37 = true)
    (sa37 : PySem.W.findIn K (.ref C37) "__setattr__" = some (some (.builtin "object.__setattr__")))
    (n37_48 : PySem.W.findIn K (.ref C37) "ticks" = some none)
    (n37_49 : PySem.W.findIn K (.ref C37) "rate" = some none)
    (mk37 : PySem.W.makesIn K C37 = true)
    (kc37 : PySem.W.keepIn K (.ref C37) = true)
    (rd37 : PySem.W.readsIn K C37 (.type "type") = true)
    (ga37 : PySem.W.specialIn K (.ref C37) "__getattribute__" = some (some (.builtin "type.__getattribute__")))
    (v37_MOST_TICKS : PySem.W.findCls K (.ref C37) (.type "type") "MOST_TICKS" = some (.val (.int 1000 tk2)))
    (ic37 : PySem.W.isClsIn K C37 = true)
    (ty37 : PySem.W.typeIn K (.ref C37) = some (.type "type"))
    (i37_0 : PySem.W.subIn K (.type "NoneType") (.ref C37) = some false)
    (i37_1 : PySem.W.subIn K (.type "bool") (.ref C37) = some false)
    (i37_2 : PySem.W.subIn K (.type "int") (.ref C37) = some false)
    (i37_3 : PySem.W.subIn K (.type "str") (.ref C37) = some false)
    (i37_4 : PySem.W.subIn K (.type "tuple") (.ref C37) = some false)
    (i37_5 : PySem.W.subIn K (.type "list") (.ref C37) = some false)
    (i37_6 : PySem.W.subIn K (.type "dict") (.ref C37) = some false)
    (t37_a : PySem.W.findIn K (.ref C37) "__class__" = some (some (.builtin "object.__class__")))
    (t37_b : PySem.W.specialIn K (.builtin "object.__class__") "__get__" = some (some (.builtin "getset_descriptor.__get__")))
    (t37_c : PySem.W.takesIn K (.builtin "object.__class__") = some true)
    (t37_d : PySem.W.mroIn K C37 (.type "object") = some true)
    (aC17 : PySem.W.nsIn K mainGlobals "Rule" = some (some (.ref C17)))
    (pg17 : PySem.W.plainGet K C17 Str.empty = true)
    (hd17 : PySem.W.hasDictIn K C17 = true)
    (po17 : PySem.W.plainOver K C17 = true)
    (sa17 : PySem.W.findIn K (.ref C17) "__setattr__" = some (some (.builtin "object.__setattr__")))
    (n17_8 : PySem.W.findIn K (.ref C17) "w" = some none)
    (n17_9 : PySem.W.findIn K (.ref C17) "r" = some none)
    (n17_10 : PySem.W.findIn K (.ref C17) "acks" = some none)
    (n17_11 : PySem.W.findIn K (.ref C17) "resend" = some none)
    (n17_12 : PySem.W.findIn K (.ref C17) "group" = some none)
    (mk17 : PySem.W.makesIn K C17 = true)
    (kc17 : PySem.W.keepIn K (.ref C17) = true)
    (b_abs : PySem.W.nsIn K mainGlobals "abs" = some none)
    (b_bool : PySem.W.nsIn K mainGlobals "bool" = some none)
    (b_int : PySem.W.nsIn K mainGlobals "int" = some none)
    (b_isinstance : PySem.W.nsIn K mainGlobals "isinstance" = some none)
    (b_len : PySem.W.nsIn K mainGlobals "len" = some none)
    (b_list : PySem.W.nsIn K mainGlobals "list" = some none)
    (b_max : PySem.W.nsIn K mainGlobals "max" = some none)
    (b_min : PySem.W.nsIn K mainGlobals "min" = some none)
    (b_range : PySem.W.nsIn K mainGlobals "range" = some none)
    (b_str : PySem.W.nsIn K mainGlobals "str" = some none)
    (b_tuple : PySem.W.nsIn K mainGlobals "tuple" = some none)
    (c_MOST_NUMBERS : PySem.W.nsIn K mainGlobals "MOST_NUMBERS" = some (some (.int 2000000 tk0)))
    (c_MOST_SIZE : PySem.W.nsIn K mainGlobals "MOST_SIZE" = some (some (.int 1000 tk1)))
    (a0 : PySem.W.nsIn K mainGlobals "_law_least" = some (some (.ref f0)))
    (l0 : K.lookup f0 = some ⟨oc0, od0, .func (PySem.W.fnOf "_law_least" "_law_least" (defArgs s_law_least) (defBody s_law_least) (defScope s_law_least) .none kV0 dc0 pm0 an0 cd0 ct0), sl0⟩)
    (c0 : PySem.W.codeIn K cd0 "_law_least" = true)
    (k0 : PySem.W.keepIn K (.ref f0) = true)
    (a1 : PySem.W.nsIn K mainGlobals "_law_life_drawn" = some (some (.ref f1)))
    (l1 : K.lookup f1 = some ⟨oc1, od1, .func (PySem.W.fnOf "_law_life_drawn" "_law_life_drawn" (defArgs s_law_life_drawn) (defBody s_law_life_drawn) (defScope s_law_life_drawn) .none kV1 dc1 pm1 an1 cd1 ct1), sl1⟩)
    (c1 : PySem.W.codeIn K cd1 "_law_life_drawn" = true)
    (k1 : PySem.W.keepIn K (.ref f1) = true)
    (a2 : PySem.W.nsIn K mainGlobals "_law_like" = some (some (.ref f2)))
    (l2 : K.lookup f2 = some ⟨oc2, od2, .func (PySem.W.fnOf "_law_like" "_law_like" (defArgs s_law_like) (defBody s_law_like) (defScope s_law_like) .none kV2 dc2 pm2 an2 cd2 ct2), sl2⟩)
    (c2 : PySem.W.codeIn K cd2 "_law_like" = true)
    (k2 : PySem.W.keepIn K (.ref f2) = true)
    (a3 : PySem.W.nsIn K mainGlobals "_law_cell" = some (some (.ref f3)))
    (l3 : K.lookup f3 = some ⟨oc3, od3, .func (PySem.W.fnOf "_law_cell" "_law_cell" (defArgs s_law_cell) (defBody s_law_cell) (defScope s_law_cell) .none kV3 dc3 pm3 an3 cd3 ct3), sl3⟩)
    (c3 : PySem.W.codeIn K cd3 "_law_cell" = true)
    (k3 : PySem.W.keepIn K (.ref f3) = true)
    (a4 : PySem.W.nsIn K mainGlobals "_law_mix" = some (some (.ref f4)))
    (l4 : K.lookup f4 = some ⟨oc4, od4, .func (PySem.W.fnOf "_law_mix" "_law_mix" (defArgs s_law_mix) (defBody s_law_mix) (defScope s_law_mix) .none kV4 dc4 pm4 an4 cd4 ct4), sl4⟩)
    (c4 : PySem.W.codeIn K cd4 "_law_mix" = true)
    (k4 : PySem.W.keepIn K (.ref f4) = true)
    (a5 : PySem.W.nsIn K mainGlobals "_law_numbers" = some (some (.ref f5)))
    (l5 : K.lookup f5 = some ⟨oc5, od5, .func (PySem.W.fnOf "_law_numbers" "_law_numbers" (defArgs s_law_numbers) (defBody s_law_numbers) (defScope s_law_numbers) .none kV5 dc5 pm5 an5 cd5 ct5), sl5⟩)
    (c5 : PySem.W.codeIn K cd5 "_law_numbers" = true)
    (k5 : PySem.W.keepIn K (.ref f5) = true)
    (a6 : PySem.W.nsIn K mainGlobals "_law_rule_drawn" = some (some (.ref f6)))
    (l6 : K.lookup f6 = some ⟨oc6, od6, .func (PySem.W.fnOf "_law_rule_drawn" "_law_rule_drawn" (defArgs s_law_rule_drawn) (defBody s_law_rule_drawn) (defScope s_law_rule_drawn) .none kV6 dc6 pm6 an6 cd6 ct6), sl6⟩)
    (c6 : PySem.W.codeIn K cd6 "_law_rule_drawn" = true)
    (k6 : PySem.W.keepIn K (.ref f6) = true)
    (a7 : PySem.W.nsIn K mainGlobals "_law_longest" = some (some (.ref f7)))
    (l7 : K.lookup f7 = some ⟨oc7, od7, .func (PySem.W.fnOf "_law_longest" "_law_longest" (defArgs s_law_longest) (defBody s_law_longest) (defScope s_law_longest) .none kV7 dc7 pm7 an7 cd7 ct7), sl7⟩)
    (c7 : PySem.W.codeIn K cd7 "_law_longest" = true)
    (k7 : PySem.W.keepIn K (.ref f7) = true)
    (a8 : PySem.W.nsIn K mainGlobals "resends_base" = some (some (.ref f8)))
    (l8 : K.lookup f8 = some ⟨oc8, od8, .func (PySem.W.fnOf "resends_base" "resends_base" (defArgs s_resends_base) (defBody s_resends_base) (defScope s_resends_base) .none kV8 dc8 pm8 an8 cd8 ct8), sl8⟩)
    (c8 : PySem.W.codeIn K cd8 "resends_base" = true)
    (k8 : PySem.W.keepIn K (.ref f8) = true)
    (a9 : PySem.W.nsIn K mainGlobals "gain_of" = some (some (.ref f9)))
    (l9 : K.lookup f9 = some ⟨oc9, od9, .func (PySem.W.fnOf "gain_of" "gain_of" (defArgs s_gain_of) (defBody s_gain_of) (defScope s_gain_of) .none kV9 dc9 pm9 an9 cd9 ct9), sl9⟩)
    (c9 : PySem.W.codeIn K cd9 "gain_of" = true)
    (k9 : PySem.W.keepIn K (.ref f9) = true)
    (a10 : PySem.W.nsIn K mainGlobals "growth" = some (some (.ref f10)))
    (l10 : K.lookup f10 = some ⟨oc10, od10, .func (PySem.W.fnOf "growth" "growth" (defArgs s_growth) (defBody s_growth) (defScope s_growth) .none kV10 dc10 pm10 an10 cd10 ct10), sl10⟩)
    (c10 : PySem.W.codeIn K cd10 "growth" = true)
    (k10 : PySem.W.keepIn K (.ref f10) = true)
    (a11 : PySem.W.nsIn K mainGlobals "reach_of" = some (some (.ref f11)))
    (l11 : K.lookup f11 = some ⟨oc11, od11, .func (PySem.W.fnOf "reach_of" "reach_of" (defArgs s_reach_of) (defBody s_reach_of) (defScope s_reach_of) .none kV11 dc11 pm11 an11 cd11 ct11), sl11⟩)
    (c11 : PySem.W.codeIn K cd11 "reach_of" = true)
    (k11 : PySem.W.keepIn K (.ref f11) = true)
    (a12 : PySem.W.nsIn K mainGlobals "least_by_formula" = some (some (.ref f12)))
    (l12 : K.lookup f12 = some ⟨oc12, od12, .func (PySem.W.fnOf "least_by_formula" "least_by_formula" (defArgs s_least_by_formula) (defBody s_least_by_formula) (defScope s_least_by_formula) .none kV12 dc12 pm12 an12 cd12 ct12), sl12⟩)
    (c12 : PySem.W.codeIn K cd12 "least_by_formula" = true)
    (k12 : PySem.W.keepIn K (.ref f12) = true)
    (a13 : PySem.W.nsIn K mainGlobals "lag" = some (some (.ref f13)))
    (l13 : K.lookup f13 = some ⟨oc13, od13, .func (PySem.W.fnOf "lag" "lag" (defArgs s_lag) (defBody s_lag) (defScope s_lag) .none kV13 dc13 pm13 an13 cd13 ct13), sl13⟩)
    (c13 : PySem.W.codeIn K cd13 "lag" = true)
    (k13 : PySem.W.keepIn K (.ref f13) = true)
    (a14 : PySem.W.findIn K (.ref C18) "__init__" = some (some (.ref f14)))
    (i14 : PySem.W.isFn K (.ref f14) = true)
    (l14 : K.lookup f14 = some ⟨oc14, od14, .func (PySem.W.fnOf "__init__" "Channel.__init__" (defArgs s_Channel_init) (defBody s_Channel_init) (defScope s_Channel_init) .none kV14 dc14 pm14 an14 cd14 ct14), sl14⟩)
    (c14 : PySem.W.codeIn K cd14 "Channel.__init__" = true)
    (k14 : PySem.W.keepIn K (.ref f14) = true)
    (a15 : PySem.W.nsIn K mainGlobals "lifetime_channel" = some (some (.ref f15)))
    (l15 : K.lookup f15 = some ⟨oc15, od15, .func (PySem.W.fnOf "lifetime_channel" "lifetime_channel" (defArgs s_lifetime_channel) (defBody s_lifetime_channel) (defScope s_lifetime_channel) .none kV15 dc15 pm15 an15 cd15 ct15), sl15⟩)
    (c15 : PySem.W.codeIn K cd15 "lifetime_channel" = true)
    (k15 : PySem.W.keepIn K (.ref f15) = true)
    (a16 : PySem.W.nsIn K mainGlobals "least_for_lifetime" = some (some (.ref f16)))
    (l16 : K.lookup f16 = some ⟨oc16, od16, .func (PySem.W.fnOf "least_for_lifetime" "least_for_lifetime" (defArgs s_least_for_lifetime) (defBody s_least_for_lifetime) (defScope s_least_for_lifetime) .none kV16 dc16 pm16 an16 cd16 ct16), sl16⟩)
    (c16 : PySem.W.codeIn K cd16 "least_for_lifetime" = true)
    (k16 : PySem.W.keepIn K (.ref f16) = true)
    (a17 : PySem.W.nsIn K mainGlobals "check_numbers" = some (some (.ref f17)))
    (l17 : K.lookup f17 = some ⟨oc17, od17, .func (PySem.W.fnOf "check_numbers" "check_numbers" (defArgs s_check_numbers) (defBody s_check_numbers) (defScope s_check_numbers) .none kV17 dc17 pm17 an17 cd17 ct17), sl17⟩)
    (c17 : PySem.W.codeIn K cd17 "check_numbers" = true)
    (k17 : PySem.W.keepIn K (.ref f17) = true)
    (a18 : PySem.W.findIn K (.ref C37) "__init__" = some (some (.ref f18)))
    (i18 : PySem.W.isFn K (.ref f18) = true)
    (l18 : K.lookup f18 = some ⟨oc18, od18, .func (PySem.W.fnOf "__init__" "Lifetime.__init__" (defArgs s_Lifetime_init) (defBody s_Lifetime_init) (defScope s_Lifetime_init) .none kV18 dc18 pm18 an18 cd18 ct18), sl18⟩)
    (c18 : PySem.W.codeIn K cd18 "Lifetime.__init__" = true)
    (k18 : PySem.W.keepIn K (.ref f18) = true)
    (a19 : PySem.W.nsIn K mainGlobals "longest_lifetime" = some (some (.ref f19)))
    (l19 : K.lookup f19 = some ⟨oc19, od19, .func (PySem.W.fnOf "longest_lifetime" "longest_lifetime" (defArgs s_longest_lifetime) (defBody s_longest_lifetime) (defScope s_longest_lifetime) .none kV19 dc19 pm19 an19 cd19 ct19), sl19⟩)
    (c19 : PySem.W.codeIn K cd19 "longest_lifetime" = true)
    (k19 : PySem.W.keepIn K (.ref f19) = true)
    (a20 : PySem.W.nsIn K mainGlobals "group_of" = some (some (.ref f20)))
    (l20 : K.lookup f20 = some ⟨oc20, od20, .func (PySem.W.fnOf "group_of" "group_of" (defArgs s_group_of) (defBody s_group_of) (defScope s_group_of) .none kV20 dc20 pm20 an20 cd20 ct20), sl20⟩)
    (c20 : PySem.W.codeIn K cd20 "group_of" = true)
    (k20 : PySem.W.keepIn K (.ref f20) = true)
    (a21 : PySem.W.findIn K (.ref C17) "__init__" = some (some (.ref f21)))
    (i21 : PySem.W.isFn K (.ref f21) = true)
    (l21 : K.lookup f21 = some ⟨oc21, od21, .func (PySem.W.fnOf "__init__" "Rule.__init__" (defArgs s_Rule_init) (defBody s_Rule_init) (defScope s_Rule_init) .none kV21 dc21 pm21 an21 cd21 ct21), sl21⟩)
    (c21 : PySem.W.codeIn K cd21 "Rule.__init__" = true)
    (k21 : PySem.W.keepIn K (.ref f21) = true)
    (a22 : PySem.W.nsIn K mainGlobals "_law_side" = some (some (.ref f22)))
    (l22 : K.lookup f22 = some ⟨oc22, od22, .func (PySem.W.fnOf "_law_side" "_law_side" (defArgs s_law_side) (defBody s_law_side) (defScope s_law_side) .none kV22 dc22 pm22 an22 cd22 ct22), sl22⟩)
    (c22 : PySem.W.codeIn K cd22 "_law_side" = true)
    (k22 : PySem.W.keepIn K (.ref f22) = true)
    (a23 : PySem.W.nsIn K mainGlobals "_law_window" = some (some (.ref f23)))
    (l23 : K.lookup f23 = some ⟨oc23, od23, .func (PySem.W.fnOf "_law_window" "_law_window" (defArgs s_law_window) (defBody s_law_window) (defScope s_law_window) .none kV23 dc23 pm23 an23 cd23 ct23), sl23⟩)
    (c23 : PySem.W.codeIn K cd23 "_law_window" = true)
    (k23 : PySem.W.keepIn K (.ref f23) = true)
    (a24 : PySem.W.nsIn K mainGlobals "largest_window" = some (some (.ref f24)))
    (l24 : K.lookup f24 = some ⟨oc24, od24, .func (PySem.W.fnOf "largest_window" "largest_window" (defArgs s_largest_window) (defBody s_largest_window) (defScope s_largest_window) .none kV24 dc24 pm24 an24 cd24 ct24), sl24⟩)
    (c24 : PySem.W.codeIn K cd24 "largest_window" = true)
    (k24 : PySem.W.keepIn K (.ref f24) = true)
    (a25 : PySem.W.findIn K (.ref C18) "fields" = some (some (.ref f25)))
    (i25 : PySem.W.isFn K (.ref f25) = true)
    (l25 : K.lookup f25 = some ⟨oc25, od25, .func (PySem.W.fnOf "fields" "Channel.fields" (defArgs s_Channel_fields) (defBody s_Channel_fields) (defScope s_Channel_fields) .none kV25 dc25 pm25 an25 cd25 ct25), sl25⟩)
    (c25 : PySem.W.codeIn K cd25 "Channel.fields" = true)
    (k25 : PySem.W.keepIn K (.ref f25) = true)
    (a26 : PySem.W.nsIn K mainGlobals "law" = some (some (.ref f26)))
    (l26 : K.lookup f26 = some ⟨oc26, od26, .func (PySem.W.fnOf "law" "law" (defArgs s_law) (defBody s_law) (defScope s_law) .none kV26 dc26 pm26 an26 cd26 ct26), sl26⟩)
    (c26 : PySem.W.codeIn K cd26 "law" = true)
    (k26 : PySem.W.keepIn K (.ref f26) = true)
    : ∃ fd : FuncData, (∀ (s : Shared) (v : Value), BindsTo s fd ⟨[v], []⟩ [("script", v)]) ∧ ∀ base : Heap, K.In base → base.Ns mainGlobals mg → FnOk l.prog w K mg base (L2.CX l.prog w) 8 fa fd ["script"] (spLaw K) := by
  have e := hfa.symm.trans (PySem.W.mg_of X G a26)
  cases e
  refine ⟨PySem.W.fnOf "law" "law" (defArgs s_law) (defBody s_law) (defScope s_law) .none kV26 dc26 pm26 an26 cd26 ct26, fun s v => .of_eq rfl, fun base _ _ => ?_⟩
  obtain ⟨Γ, hΓ⟩ : ∃ Γ : Wd, Γ = ⟨l.prog, w, K, mg, base, fun n => if n = 18 then C18 else if n = 37 then C37 else if n = 17 then C17 else 0, fun _ => .type "type", fun n => if n = 0 then tk0 else if n = 1 then tk1 else if n = 2 then tk2 else tk0⟩ := ⟨_, rfl⟩
  have eP : Γ.P = l.prog := by rw [hΓ]
  have ew : Γ.w = w := by rw [hΓ]
  have eK : Γ.K = K := by rw [hΓ]
  have emg : Γ.mg = mg := by rw [hΓ]
  have ebase : Γ.base = base := by rw [hΓ]
  have eC18 : Γ.cA 18 = C18 := by rw [hΓ]; rfl
  have eC37 : Γ.cA 37 = C37 := by rw [hΓ]; rfl
  have eC17 : Γ.cA 17 = C17 := by rw [hΓ]; rfl
  have em37 : Γ.mc 37 = .type "type" := by rw [hΓ]
  have et0 : Γ.tk 0 = tk0 := by rw [hΓ]; rfl
  have et1 : Γ.tk 1 = tk1 := by rw [hΓ]; rfl
  have et2 : Γ.tk 2 = tk2 := by rw [hΓ]; rfl
  have q18 : CF Γ.θ 18 := by
    refine ⟨?_, fun f hf => ?_⟩
    · show Cls Γ.K (Γ.cA 18); rw [eK, eC18]; exact ⟨pg18, hd18, po18, sa18⟩
    · show NoAttr Γ.K (Γ.cA 18) (nmT f)
      rw [eK, eC18]
      have hf2 : f = 13 ∨ f = 14 := by simpa [flT] using hf
      rcases hf2 with rfl | rfl
      · exact n18_13
      · exact n18_14
  have q37 : CF Γ.θ 37 := by
    refine ⟨?_, fun f hf => ?_⟩
    · show Cls Γ.K (Γ.cA 37); rw [eK, eC37]; exact ⟨pg37, hd37, po37, sa37⟩
    · show NoAttr Γ.K (Γ.cA 37) (nmT f)
      rw [eK, eC37]
      have hf2 : f = 48 ∨ f = 49 := by simpa [flT] using hf
      rcases hf2 with rfl | rfl
      · exact n37_48
      · exact n37_49
  have q17 : CF Γ.θ 17 := by
    refine ⟨?_, fun f hf => ?_⟩
    · show Cls Γ.K (Γ.cA 17); rw [eK, eC17]; exact ⟨pg17, hd17, po17, sa17⟩
    · show NoAttr Γ.K (Γ.cA 17) (nmT f)
      rw [eK, eC17]
      have hf2 : f = 8 ∨ f = 9 ∨ f = 10 ∨ f = 11 ∨ f = 12 := by simpa [flT] using hf
      rcases hf2 with rfl | rfl | rfl | rfl | rfl
      · exact n17_8
      · exact n17_9
      · exact n17_10
      · exact n17_11
      · exact n17_12
  have T : Txt Γ := {
    b_abs := by rw [emg]; exact PySem.W.mg_none_of X G b_abs
    b_bool := by rw [emg]; exact PySem.W.mg_none_of X G b_bool
    b_int := by rw [emg]; exact PySem.W.mg_none_of X G b_int
    b_isinstance := by rw [emg]; exact PySem.W.mg_none_of X G b_isinstance
    b_len := by rw [emg]; exact PySem.W.mg_none_of X G b_len
    b_list := by rw [emg]; exact PySem.W.mg_none_of X G b_list
    b_max := by rw [emg]; exact PySem.W.mg_none_of X G b_max
    b_min := by rw [emg]; exact PySem.W.mg_none_of X G b_min
    b_range := by rw [emg]; exact PySem.W.mg_none_of X G b_range
    b_str := by rw [emg]; exact PySem.W.mg_none_of X G b_str
    b_tuple := by rw [emg]; exact PySem.W.mg_none_of X G b_tuple
    c_MOST_NUMBERS := by rw [emg, et0]; exact PySem.W.mg_of X G c_MOST_NUMBERS
    c_MOST_SIZE := by rw [emg, et1]; exact PySem.W.mg_of X G c_MOST_SIZE
    m_Channel := by rw [emg, eC18]; exact PySem.W.mg_of X G aC18
    m_Lifetime := by rw [emg, eC37]; exact PySem.W.mg_of X G aC37
    r_Lifetime := by rw [eK, eC37, em37]; exact ⟨rd37, ga37⟩
    v_Lifetime_MOST_TICKS := by rw [eK, eC37, em37, et2]; exact ⟨v37_MOST_TICKS, ⟨_, rfl⟩⟩
    i_Channel := by
      refine ⟨fun a ha => ?_, fun d hd => ?_⟩
      · show PySem.W.kitOne Γ.K (.type a) (.ref (Γ.cA 18)) = _
        rw [eK, eC18]
        have ha2 : a = "NoneType" ∨ a = "bool" ∨ a = "int" ∨ a = "str" ∨ a = "tuple" ∨ a = "list" ∨ a = "dict" := by simpa using ha
        rcases ha2 with rfl | rfl | rfl | rfl | rfl | rfl | rfl
        · exact kit_own (by rfl) ic18 ty18 i18_0
        · exact kit_own (by rfl) ic18 ty18 i18_1
        · exact kit_own (by rfl) ic18 ty18 i18_2
        · exact kit_own (by rfl) ic18 ty18 i18_3
        · exact kit_own (by rfl) ic18 ty18 i18_4
        · exact kit_own (by rfl) ic18 ty18 i18_5
        · exact kit_own (by rfl) ic18 ty18 i18_6
      · show PySem.W.kitOne Γ.K (.ref (Γ.cA d)) (.ref (Γ.cA 18)) = _
        have hd2 : d = 18 := by simpa using hd
        rcases hd2 with rfl
        · rw [eK, eC18]; exact kit_self
    t_Channel := fun d hd => by
      have hd2 : d = 18 := by simpa using hd
      rcases hd2 with rfl
      · refine ⟨?_, ?_, ?_, ?_⟩
        · show PySem.W.findIn Γ.K (.ref (Γ.cA 18)) _ = _; rw [eK, eC18]; exact t18_a
        · show PySem.W.specialIn Γ.K _ _ = _; rw [eK]; exact t18_b
        · show PySem.W.takesIn Γ.K _ = _; rw [eK]; exact t18_c
        · show PySem.W.mroIn Γ.K (Γ.cA 18) _ = _; rw [eK, eC18]; exact t18_d
    i_Lifetime := by
      refine ⟨fun a ha => ?_, fun d hd => ?_⟩
      · show PySem.W.kitOne Γ.K (.type a) (.ref (Γ.cA 37)) = _
        rw [eK, eC37]
        have ha2 : a = "NoneType" ∨ a = "bool" ∨ a = "int" ∨ a = "str" ∨ a = "tuple" ∨ a = "list" ∨ a = "dict" := by simpa using ha
        rcases ha2 with rfl | rfl | rfl | rfl | rfl | rfl | rfl
        · exact kit_own (by rfl) ic37 ty37 i37_0
        · exact kit_own (by rfl) ic37 ty37 i37_1
        · exact kit_own (by rfl) ic37 ty37 i37_2
        · exact kit_own (by rfl) ic37 ty37 i37_3
        · exact kit_own (by rfl) ic37 ty37 i37_4
        · exact kit_own (by rfl) ic37 ty37 i37_5
        · exact kit_own (by rfl) ic37 ty37 i37_6
      · show PySem.W.kitOne Γ.K (.ref (Γ.cA d)) (.ref (Γ.cA 37)) = _
        have hd2 : d = 37 := by simpa using hd
        rcases hd2 with rfl
        · rw [eK, eC37]; exact kit_self
    t_Lifetime := fun d hd => by
      have hd2 : d = 37 := by simpa using hd
      rcases hd2 with rfl
      · refine ⟨?_, ?_, ?_, ?_⟩
        · show PySem.W.findIn Γ.K (.ref (Γ.cA 37)) _ = _; rw [eK, eC37]; exact t37_a
        · show PySem.W.specialIn Γ.K _ _ = _; rw [eK]; exact t37_b
        · show PySem.W.takesIn Γ.K _ = _; rw [eK]; exact t37_c
        · show PySem.W.mroIn Γ.K (Γ.cA 37) _ = _; rw [eK, eC37]; exact t37_d
  }
  have F0 := fun_mk (st := s_law_least) l0 c0 k0
  have B0 := F0.binds (ps := ["w", "room", "group", "backs", "again", "k", "j"]) fun _ _ _ _ _ _ us hl => match us, hl with | [_, _, _, _, _, _, _], _ => rfl
  have h_law_least := ok_law_least T ⟨f0, _, by rw [eK]; exact F0, by rw [emg]; exact PySem.W.mg_of X G a0, by rw [eK]; exact B0⟩ 
  have F1 := fun_mk (st := s_law_life_drawn) l1 c1 k1
  have B1 := F1.binds (ps := ["row"]) fun _ _ _ _ _ _ us hl => match us, hl with | [_], _ => rfl
  have h_law_life_drawn := ok_law_life_drawn T ⟨f1, _, by rw [eK]; exact F1, by rw [emg]; exact PySem.W.mg_of X G a1, by rw [eK]; exact B1⟩ 
  have F2 := fun_mk (st := s_law_like) l2 c2 k2
  have B2 := F2.binds (ps := ["told", "due"]) fun _ _ _ _ _ _ us hl => match us, hl with | [_, _], _ => rfl
  have h_law_like : FnAt Γ "_law_like" 6 2 f_law_like := ok_law_like T ⟨f2, _, by rw [eK]; exact F2, by rw [emg]; exact PySem.W.mg_of X G a2, by rw [eK]; exact B2⟩  6
  have F3 := fun_mk (st := s_law_cell) l3 c3 k3
  have B3 := F3.binds (ps := ["script", "k"]) fun _ _ _ _ _ _ us hl => match us, hl with | [_, _], _ => rfl
  have h_law_cell := ok_law_cell T ⟨f3, _, by rw [eK]; exact F3, by rw [emg]; exact PySem.W.mg_of X G a3, by rw [eK]; exact B3⟩ 
  have F4 := fun_mk (st := s_law_mix) l4 c4 k4
  have B4 := F4.binds (ps := ["seed", "k"]) fun _ _ _ _ _ _ us hl => match us, hl with | [_, _], _ => rfl
  have h_law_mix := ok_law_mix T ⟨f4, _, by rw [eK]; exact F4, by rw [emg]; exact PySem.W.mg_of X G a4, by rw [eK]; exact B4⟩ 
  have F5 := fun_mk (st := s_law_numbers) l5 c5 k5
  have B5 := F5.binds (ps := ["script", "at", "many"]) fun _ _ _ _ _ _ us hl => match us, hl with | [_, _, _], _ => rfl
  have h_law_numbers := ok_law_numbers T ⟨f5, _, by rw [eK]; exact F5, by rw [emg]; exact PySem.W.mg_of X G a5, by rw [eK]; exact B5⟩ h_law_cell h_law_mix
  have F6 := fun_mk (st := s_law_rule_drawn) l6 c6 k6
  have B6 := F6.binds (ps := ["row"]) fun _ _ _ _ _ _ us hl => match us, hl with | [_], _ => rfl
  have h_law_rule_drawn := ok_law_rule_drawn T ⟨f6, _, by rw [eK]; exact F6, by rw [emg]; exact PySem.W.mg_of X G a6, by rw [eK]; exact B6⟩ 
  have F7 := fun_mk (st := s_law_longest) l7 c7 k7
  have B7 := F7.binds (ps := ["size", "room", "group", "kind", "again", "rate", "j", "numbers"]) fun _ _ _ _ _ _ us hl => match us, hl with | [_, _, _, _, _, _, _, _], _ => rfl
  have h_law_longest := ok_law_longest T ⟨f7, _, by rw [eK]; exact F7, by rw [emg]; exact PySem.W.mg_of X G a7, by rw [eK]; exact B7⟩ h_law_least
  have F8 := fun_mk (st := s_resends_base) l8 c8 k8
  have B8 := F8.binds (ps := ["rule"]) fun _ _ _ _ _ _ us hl => match us, hl with | [_], _ => rfl
  have h_resends_base := ok_resends_base T ⟨f8, _, by rw [eK]; exact F8, by rw [emg]; exact PySem.W.mg_of X G a8, by rw [eK]; exact B8⟩ 
  have F9 := fun_mk (st := s_gain_of) l9 c9 k9
  have B9 := F9.binds (ps := ["rule", "channel"]) fun _ _ _ _ _ _ us hl => match us, hl with | [_, _], _ => rfl
  have h_gain_of := ok_gain_of T ⟨f9, _, by rw [eK]; exact F9, by rw [emg]; exact PySem.W.mg_of X G a9, by rw [eK]; exact B9⟩ h_resends_base
  have F10 := fun_mk (st := s_growth) l10 c10 k10
  have B10 := F10.binds (ps := ["rule", "channel"]) fun _ _ _ _ _ _ us hl => match us, hl with | [_, _], _ => rfl
  have h_growth := ok_growth T ⟨f10, _, by rw [eK]; exact F10, by rw [emg]; exact PySem.W.mg_of X G a10, by rw [eK]; exact B10⟩ h_gain_of
  have F11 := fun_mk (st := s_reach_of) l11 c11 k11
  have B11 := F11.binds (ps := ["rule"]) fun _ _ _ _ _ _ us hl => match us, hl with | [_], _ => rfl
  have h_reach_of := ok_reach_of T ⟨f11, _, by rw [eK]; exact F11, by rw [emg]; exact PySem.W.mg_of X G a11, by rw [eK]; exact B11⟩ h_resends_base
  have F12 := fun_mk (st := s_least_by_formula) l12 c12 k12
  have B12 := F12.binds (ps := ["rule", "channel"]) fun _ _ _ _ _ _ us hl => match us, hl with | [_, _], _ => rfl
  have h_least_by_formula := ok_least_by_formula T ⟨f12, _, by rw [eK]; exact F12, by rw [emg]; exact PySem.W.mg_of X G a12, by rw [eK]; exact B12⟩ h_growth h_reach_of
  have F13 := fun_mk (st := s_lag) l13 c13 k13
  have B13 := F13.binds (ps := ["lifetime"]) fun _ _ _ _ _ _ us hl => match us, hl with | [_], _ => rfl
  have h_lag := ok_lag T ⟨f13, _, by rw [eK]; exact F13, by rw [emg]; exact PySem.W.mg_of X G a13, by rw [eK]; exact B13⟩ 
  have F14 := fun_mk (st := s_Channel_init) l14 c14 k14
  have B14 := F14.binds (ps := ["self", "k", "j"]) fun _ _ _ _ _ _ us hl => match us, hl with | [_, _, _], _ => rfl
  have h_Channel_init := ok_Channel_init T q18 ⟨f14, _, by rw [eK]; exact F14, by rw [eK, eC18]; exact ⟨mk18, a14, i14, kc18⟩, by rw [emg, eC18]; exact PySem.W.mg_of X G aC18, by rw [eK]; exact B14⟩ 
  have F15 := fun_mk (st := s_lifetime_channel) l15 c15 k15
  have B15 := F15.binds (ps := ["lifetime", "j"]) fun _ _ _ _ _ _ us hl => match us, hl with | [_, _], _ => rfl
  have h_lifetime_channel := ok_lifetime_channel T ⟨f15, _, by rw [eK]; exact F15, by rw [emg]; exact PySem.W.mg_of X G a15, by rw [eK]; exact B15⟩ h_lag h_Channel_init
  have F16 := fun_mk (st := s_least_for_lifetime) l16 c16 k16
  have B16 := F16.binds (ps := ["rule", "lifetime", "j"]) fun _ _ _ _ _ _ us hl => match us, hl with | [_, _, _], _ => rfl
  have h_least_for_lifetime := ok_least_for_lifetime T ⟨f16, _, by rw [eK]; exact F16, by rw [emg]; exact PySem.W.mg_of X G a16, by rw [eK]; exact B16⟩ h_least_by_formula h_lifetime_channel
  have F17 := fun_mk (st := s_check_numbers) l17 c17 k17
  have B17 := F17.binds (ps := ["numbers"]) fun _ _ _ _ _ _ us hl => match us, hl with | [_], _ => rfl
  have h_check_numbers := ok_check_numbers T ⟨f17, _, by rw [eK]; exact F17, by rw [emg]; exact PySem.W.mg_of X G a17, by rw [eK]; exact B17⟩ 
  have F18 := fun_mk (st := s_Lifetime_init) l18 c18 k18
  have B18 := F18.binds (ps := ["self", "ticks", "rate"]) fun _ _ _ _ _ _ us hl => match us, hl with | [_, _, _], _ => rfl
  have h_Lifetime_init := ok_Lifetime_init T q37 ⟨f18, _, by rw [eK]; exact F18, by rw [eK, eC37]; exact ⟨mk37, a18, i18, kc37⟩, by rw [emg, eC37]; exact PySem.W.mg_of X G aC37, by rw [eK]; exact B18⟩ 
  have F19 := fun_mk (st := s_longest_lifetime) l19 c19 k19
  have B19 := F19.binds (ps := ["rule", "rate", "j", "numbers"]) fun _ _ _ _ _ _ us hl => match us, hl with | [_, _, _, _], _ => rfl
  have h_longest_lifetime := ok_longest_lifetime T ⟨f19, _, by rw [eK]; exact F19, by rw [emg]; exact PySem.W.mg_of X G a19, by rw [eK]; exact B19⟩ h_check_numbers h_least_for_lifetime h_Lifetime_init
  have F20 := fun_mk (st := s_group_of) l20 c20 k20
  have B20 := F20.binds (ps := ["acks"]) fun _ _ _ _ _ _ us hl => match us, hl with | [_], _ => rfl
  have h_group_of := ok_group_of T ⟨f20, _, by rw [eK]; exact F20, by rw [emg]; exact PySem.W.mg_of X G a20, by rw [eK]; exact B20⟩ 
  have F21 := fun_mk (st := s_Rule_init) l21 c21 k21
  have B21 := F21.binds (ps := ["self", "w", "r", "acks", "resend"]) fun _ _ _ _ _ _ us hl => match us, hl with | [_, _, _, _, _], _ => rfl
  have h_Rule_init := ok_Rule_init T q17 ⟨f21, _, by rw [eK]; exact F21, by rw [eK, eC17]; exact ⟨mk17, a21, i21, kc17⟩, by rw [emg, eC17]; exact PySem.W.mg_of X G aC17, by rw [eK]; exact B21⟩ h_group_of
  have F22 := fun_mk (st := s_law_side) l22 c22 k22
  have B22 := F22.binds (ps := ["size", "drawn", "ticks", "rate", "j", "numbers", "fits"]) fun _ _ _ _ _ _ us hl => match us, hl with | [_, _, _, _, _, _, _], _ => rfl
  have h_law_side := ok_law_side T ⟨f22, _, by rw [eK]; exact F22, by rw [emg]; exact PySem.W.mg_of X G a22, by rw [eK]; exact B22⟩ h_law_least h_law_like h_law_longest h_least_for_lifetime h_longest_lifetime h_Lifetime_init h_Rule_init
  have F23 := fun_mk (st := s_law_window) l23 c23 k23
  have B23 := F23.binds (ps := ["room", "group", "kind", "again", "k", "j", "numbers"]) fun _ _ _ _ _ _ us hl => match us, hl with | [_, _, _, _, _, _, _], _ => rfl
  have h_law_window := ok_law_window T ⟨f23, _, by rw [eK]; exact F23, by rw [emg]; exact PySem.W.mg_of X G a23, by rw [eK]; exact B23⟩ h_law_least
  have F24 := fun_mk (st := s_largest_window) l24 c24 k24
  have B24 : KBn K (PySem.W.fnOf "largest_window" "largest_window" (defArgs s_largest_window) (defBody s_largest_window) (defScope s_largest_window) .none kV24 dc24 pm24 an24 cd24 ct24) ["channel", "numbers", "r", "acks", "resend"] 2 ["r", "acks", "resend"] (fun us ws => us ++ ws) (fun vs zs => vs ++ zs) := ⟨fun s us ws _ h1 h2 => by
    match us, ws, h1, h2 with
    | [u0, u1], [z0, z1, z2], _, _ => exact .of_eq rfl, fun a b => a.append b⟩
  have h_largest_window := ok_largest_window T ⟨f24, _, by rw [eK]; exact F24, by rw [emg]; exact PySem.W.mg_of X G a24, by rw [eK]; exact B24⟩ h_check_numbers h_least_by_formula h_Rule_init
  have F25 := fun_mk (st := s_Channel_fields) l25 c25 k25
  have B25 := F25.binds (ps := ["self"]) fun _ _ _ _ _ _ us hl => match us, hl with | [_], _ => rfl
  have h_Channel_fields := ok_Channel_fields T q18 ⟨f25, _, by rw [eK]; exact F25, by rw [eK, eC18]; exact ⟨a25, i25, k25⟩, by rw [eK]; exact B25⟩ 
  have F26 := fun_mk (st := s_law) l26 c26 k26
  have B26 := F26.binds (ps := ["script"]) fun _ _ _ _ _ _ us hl => match us, hl with | [_], _ => rfl
  have h_law := ok_law T (by rw [eK]; exact F26) h_law_least h_law_life_drawn h_law_like h_law_numbers h_law_rule_drawn h_law_side h_law_window h_lag h_largest_window h_lifetime_channel h_Lifetime_init h_Channel_fields
  rw [eP, ew, emg, ebase] at h_law
  have eθ : Γ.θ.K = K := eK
  have h2 := ok_mono h_law fun vs H Q E z => sp_end (θ := Γ.θ) (fun ns _ B => m_law ns fun n hn => Nat.lt_of_lt_of_le (B n hn) (Nat.pow_le_pow_right (by decide) (by decide))) z
  rw [eθ] at h2; rw [eK] at h2; exact h2
end K89

open PySem PySem.W PyProof.Rows in
set_option maxRecDepth 100000 in
set_option maxHeartbeats 0 in
theorem PySem.Challenge.cw_numbersenough_k89_windows_for_lifetimes_holds : PySem.Challenge.rw_numbersenough_k89_windows_for_lifetimes.Holds := by
  w_on; o_law; k_head; (case hw => w_witness2)
  k_fill
  refine Y.walk (k := 8) (l := PySem.Challenge.rw_numbersenough_k89_windows_for_lifetimes) rfl rfl ⟨rfl, by decide, by decide⟩ (fun w h Y => PySem.W.kIn_of Y) ?F
  case F =>
    intro w mg fa h KX G hmg
    refine' K89.all_mk KX G hmg ?aC18 ?pg18 ?hd18 ?po18 ?sa18 ?n18_13 ?n18_14 ?mk18 ?kc18 ?ic18 ?ty18 ?i18_0 ?i18_1 ?i18_2 ?i18_3 ?i18_4 ?i18_5 ?i18_6 ?t18_a ?t18_b ?t18_c ?t18_d ?aC37 ?pg37 ?hd37 ?po37 ?sa37 ?n37_48 ?n37_49 ?mk37 ?kc37 ?rd37 ?ga37 ?v37_MOST_TICKS ?ic37 ?ty37 ?i37_0 ?i37_1 ?i37_2 ?i37_3 ?i37_4 ?i37_5 ?i37_6 ?t37_a ?t37_b ?t37_c ?t37_d ?aC17 ?pg17 ?hd17 ?po17 ?sa17 ?n17_8 ?n17_9 ?n17_10 ?n17_11 ?n17_12 ?mk17 ?kc17 ?b_abs ?b_bool ?b_int ?b_isinstance ?b_len ?b_list ?b_max ?b_min ?b_range ?b_str ?b_tuple ?c_MOST_NUMBERS ?c_MOST_SIZE ?a0 ?l0 ?c0 ?k0 ?a1 ?l1 ?c1 ?k1 ?a2 ?l2 ?c2 ?k2 ?a3 ?l3 ?c3 ?k3 ?a4 ?l4 ?c4 ?k4 ?a5 ?l5 ?c5 ?k5 ?a6 ?l6 ?c6 ?k6 ?a7 ?l7 ?c7 ?k7 ?a8 ?l8 ?c8 ?k8 ?a9 ?l9 ?c9 ?k9 ?a10 ?l10 ?c10 ?k10 ?a11 ?l11 ?c11 ?k11 ?a12 ?l12 ?c12 ?k12 ?a13 ?l13 ?c13 ?k13 ?a14 ?i14 ?l14 ?c14 ?k14 ?a15 ?l15 ?c15 ?k15 ?a16 ?l16 ?c16 ?k16 ?a17 ?l17 ?c17 ?k17 ?a18 ?i18 ?l18 ?c18 ?k18 ?a19 ?l19 ?c19 ?k19 ?a20 ?l20 ?c20 ?k20 ?a21 ?i21 ?l21 ?c21 ?k21 ?a22 ?l22 ?c22 ?k22 ?a23 ?l23 ?c23 ?k23 ?a24 ?l24 ?c24 ?k24 ?a25 ?i25 ?l25 ?c25 ?k25 ?a26 ?l26 ?c26 ?k26
    (case aC18 => k_is)
    (case pg18 => k_is)
    (case hd18 => k_is)
    (case po18 => k_is)
    (case sa18 => k_is)
    (case n18_13 => k_is)
    (case n18_14 => k_is)
    (case mk18 => k_is)
    (case kc18 => k_is)
    (case ic18 => k_is)
    (case ty18 => k_is)
    (case i18_0 => k_is)
    (case i18_1 => k_is)
    (case i18_2 => k_is)
    (case i18_3 => k_is)
    (case i18_4 => k_is)
    (case i18_5 => k_is)
    (case i18_6 => k_is)
    (case t18_a => k_is)
    (case t18_b => k_is)
    (case t18_c => k_is)
    (case t18_d => k_is)
    (case aC37 => k_is)
    (case pg37 => k_is)
    (case hd37 => k_is)
    (case po37 => k_is)
    (case sa37 => k_is)
    (case n37_48 => k_is)
    (case n37_49 => k_is)
    (case mk37 => k_is)
    (case kc37 => k_is)
    (case rd37 => k_is)
    (case ga37 => k_is)
    (case v37_MOST_TICKS => k_is)
    (case ic37 => k_is)
    (case ty37 => k_is)
    (case i37_0 => k_is)
    (case i37_1 => k_is)
    (case i37_2 => k_is)
    (case i37_3 => k_is)
    (case i37_4 => k_is)
    (case i37_5 => k_is)
    (case i37_6 => k_is)
    (case t37_a => k_is)
    (case t37_b => k_is)
    (case t37_c => k_is)
    (case t37_d => k_is)
    (case aC17 => k_is)
    (case pg17 => k_is)
    (case hd17 => k_is)
    (case po17 => k_is)
    (case sa17 => k_is)
    (case n17_8 => k_is)
    (case n17_9 => k_is)
    (case n17_10 => k_is)
    (case n17_11 => k_is)
    (case n17_12 => k_is)
    (case mk17 => k_is)
    (case kc17 => k_is)
    (case b_abs => k_is)
    (case b_bool => k_is)
    (case b_int => k_is)
    (case b_isinstance => k_is)
    (case b_len => k_is)
    (case b_list => k_is)
    (case b_max => k_is)
    (case b_min => k_is)
    (case b_range => k_is)
    (case b_str => k_is)
    (case b_tuple => k_is)
    (case c_MOST_NUMBERS => k_is)
    (case c_MOST_SIZE => k_is)
    (case a0 => k_is)
    (case l0 => k_is)
    (case c0 => k_is)
    (case k0 => k_is)
    (case a1 => k_is)
    (case l1 => k_is)
    (case c1 => k_is)
    (case k1 => k_is)
    (case a2 => k_is)
    (case l2 => k_is)
    (case c2 => k_is)
    (case k2 => k_is)
    (case a3 => k_is)
    (case l3 => k_is)
    (case c3 => k_is)
    (case k3 => k_is)
    (case a4 => k_is)
    (case l4 => k_is)
    (case c4 => k_is)
    (case k4 => k_is)
    (case a5 => k_is)
    (case l5 => k_is)
    (case c5 => k_is)
    (case k5 => k_is)
    (case a6 => k_is)
    (case l6 => k_is)
    (case c6 => k_is)
    (case k6 => k_is)
    (case a7 => k_is)
    (case l7 => k_is)
    (case c7 => k_is)
    (case k7 => k_is)
    (case a8 => k_is)
    (case l8 => k_is)
    (case c8 => k_is)
    (case k8 => k_is)
    (case a9 => k_is)
    (case l9 => k_is)
    (case c9 => k_is)
    (case k9 => k_is)
    (case a10 => k_is)
    (case l10 => k_is)
    (case c10 => k_is)
    (case k10 => k_is)
    (case a11 => k_is)
    (case l11 => k_is)
    (case c11 => k_is)
    (case k11 => k_is)
    (case a12 => k_is)
    (case l12 => k_is)
    (case c12 => k_is)
    (case k12 => k_is)
    (case a13 => k_is)
    (case l13 => k_is)
    (case c13 => k_is)
    (case k13 => k_is)
    (case a14 => k_is)
    (case i14 => k_is)
    (case l14 => k_is)
    (case c14 => k_is)
    (case k14 => k_is)
    (case a15 => k_is)
    (case l15 => k_is)
    (case c15 => k_is)
    (case k15 => k_is)
    (case a16 => k_is)
    (case l16 => k_is)
    (case c16 => k_is)
    (case k16 => k_is)
    (case a17 => k_is)
    (case l17 => k_is)
    (case c17 => k_is)
    (case k17 => k_is)
    (case a18 => k_is)
    (case i18 => k_is)
    (case l18 => k_is)
    (case c18 => k_is)
    (case k18 => k_is)
    (case a19 => k_is)
    (case l19 => k_is)
    (case c19 => k_is)
    (case k19 => k_is)
    (case a20 => k_is)
    (case l20 => k_is)
    (case c20 => k_is)
    (case k20 => k_is)
    (case a21 => k_is)
    (case i21 => k_is)
    (case l21 => k_is)
    (case c21 => k_is)
    (case k21 => k_is)
    (case a22 => k_is)
    (case l22 => k_is)
    (case c22 => k_is)
    (case k22 => k_is)
    (case a23 => k_is)
    (case l23 => k_is)
    (case c23 => k_is)
    (case k23 => k_is)
    (case a24 => k_is)
    (case l24 => k_is)
    (case c24 => k_is)
    (case k24 => k_is)
    (case a25 => k_is)
    (case i25 => k_is)
    (case l25 => k_is)
    (case c25 => k_is)
    (case k25 => k_is)
    (case a26 => k_is)
    (case l26 => k_is)
    (case c26 => k_is)
    (case k26 => k_is)

