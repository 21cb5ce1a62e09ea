import PyProof.Rows.All
import Wide.All
import OpenK.AllK
import Wide.FinOn
import HandS.ForMost
import HandS.ForExc
import HandS.TryMany
import HandS.ExcIs
import HandS.IsInst
import HandS.Deep
import HandS.Flow
import KE.Datum
import HandS.HotCalls
import HandS.SortKw
import KE.DataMinMax
import KE.KxText
import PySem.Challenge.RW_eachitsshare_k47_first_break_told
set_option Elab.async false
set_option linter.all false
set_option maxRecDepth 100000
/-! DL1: values as data (D), how the heap bears them, the state of a def by slots, expressions and statements by data. -/
namespace DL
open PySem PySem.Spec PyProof.Rows L2

/-- a value as data -/
inductive D where
  | non | bl (b : Bool) | int (i : Int) | str (s : Str) | ty (n : String) | opq (a : Addr)
  | lst (xs : List D) | tup (xs : List D) | dic (kvs : List (Key × D)) | obj (C : Addr) (fs : List (Str × D)) | exc (C : Addr) (fs : Option (List (Str × D)))
instance : Inhabited D := ⟨.non⟩

/-- an exception in hand, known by its object -/
def xo (oe : Obj) (a : Addr) : HO := .frz oe (.ext fun h => h.get? a = some oe)
mutual
/-- the value v bears the data d -/
inductive DR (K : PySem.W.Frag) (H : Hp) : V → D → Prop
  | non : DR K H .non .non
  | bl (b : Bool) : DR K H (.bl b) (.bl b)
  | int (i : Int) : DR K H (.int i) (.int i)
  | str (x : Str) : DR K H (.str x) (.str x)
  | ty (n : String) : DR K H (.ty n) (.ty n)
  | opq (a : Addr) : DR K H (.ref a) (.opq a)
  | lst {a : Addr} {xs : List V} {ds : List D} : SqL K H a xs → DRs K H xs ds → DR K H (.ref a) (.lst ds)
  | tup {a : Addr} {xs : List V} {ds : List D} : SqT K H a xs → DRs K H xs ds → DR K H (.ref a) (.tup ds)
  | dic {a : Addr} {kvs : List (Key × V)} {ks : List (Key × D)} : H a = some (.dK kvs) → DRk K H kvs ks → DR K H (.ref a) (.dic ks)
  | obj {a C dx : Addr} {fs : List (Str × V)} {gs : List (Str × D)} : H a = some (.ins C dx fs) → DRf K H fs gs → DR K H (.ref a) (.obj C gs)
  | exc0 {a C : Addr} {oe : Obj} : H a = some (xo oe a) → oe.cls = .ref C → oe.dict = none → (∃ vs, oe.data = .fields vs) → DR K H (.ref a) (.exc C none)
  | excD {a C d : Addr} {oe : Obj} {fs : List (Str × V)} {gs : List (Str × D)} : H a = some (xo oe a) → oe.cls = .ref C → oe.dict = some d → (∃ vs, oe.data = .fields vs) → H d = some (.xd fs) → DRf K H fs gs → DR K H (.ref a) (.exc C (some gs))
inductive DRs (K : PySem.W.Frag) (H : Hp) : List V → List D → Prop
  | nil : DRs K H [] []
  | cons {v : V} {vs : List V} {d : D} {ds : List D} : DR K H v d → DRs K H vs ds → DRs K H (v :: vs) (d :: ds)
inductive DRk (K : PySem.W.Frag) (H : Hp) : List (Key × V) → List (Key × D) → Prop
  | nil : DRk K H [] []
  | cons {k : Key} {v : V} {vs : List (Key × V)} {d : D} {ds : List (Key × D)} : DR K H v d → DRk K H vs ds → DRk K H ((k, v) :: vs) ((k, d) :: ds)
inductive DRf (K : PySem.W.Frag) (H : Hp) : List (Str × V) → List (Str × D) → Prop
  | nil : DRf K H [] []
  | cons {k : Str} {v : V} {vs : List (Str × V)} {d : D} {ds : List (Str × D)} : DR K H v d → DRf K H vs ds → DRf K H ((k, v) :: vs) ((k, d) :: ds)
end

section
variable {K : PySem.W.Frag} {H H' : Hp}
theorem rd_mono {a : Addr} {u : HO} (s : Same H H') (r : Rd H a u) : Rd H' a u := by
  rcases r with r | ⟨o, r⟩
  · exact .inl (s _ _ r)
  · exact .inr ⟨o, s _ _ r⟩
theorem sqt_mono {a : Addr} {xs : List V} (s : Same H H') (h : SqT K H a xs) : SqT K H' a xs := by
  rcases h with h | h
  · exact .inl (rd_mono s h)
  · exact .inr h
mutual
theorem DR.mono (s : Same H H') : ∀ {v : V} {d : D}, DR K H v d → DR K H' v d
  | _, _, .non => .non
  | _, _, .bl b => .bl b
  | _, _, .int i => .int i
  | _, _, .str x => .str x
  | _, _, .ty n => .ty n
  | _, _, .opq a => .opq a
  | _, _, .lst h r => .lst (s.seq h) (DRs.mono s r)
  | _, _, .tup h r => .tup (sqt_mono s h) (DRs.mono s r)
  | _, _, .dic h r => .dic (s _ _ h) (DRk.mono s r)
  | _, _, .obj h r => .obj (s _ _ h) (DRf.mono s r)
  | _, _, .exc0 h a b c => .exc0 (s _ _ h) a b c
  | _, _, .excD h a b c e r => .excD (s _ _ h) a b c (s _ _ e) (DRf.mono s r)
theorem DRs.mono (s : Same H H') : ∀ {vs : List V} {ds : List D}, DRs K H vs ds → DRs K H' vs ds
  | _, _, .nil => .nil
  | _, _, .cons h r => .cons (DR.mono s h) (DRs.mono s r)
theorem DRk.mono (s : Same H H') : ∀ {vs : List (Key × V)} {ds : List (Key × D)}, DRk K H vs ds → DRk K H' vs ds
  | _, _, .nil => .nil
  | _, _, .cons h r => .cons (DR.mono s h) (DRk.mono s r)
theorem DRf.mono (s : Same H H') : ∀ {vs : List (Str × V)} {ds : List (Str × D)}, DRf K H vs ds → DRf K H' vs ds
  | _, _, .nil => .nil
  | _, _, .cons h r => .cons (DR.mono s h) (DRf.mono s r)
end
theorem DRs.length {vs : List V} {ds : List D} (h : DRs K H vs ds) : vs.length = ds.length := by
  induction ds generalizing vs with
  | nil => cases h; rfl
  | cons d ds ih => cases h with | cons _ r => simp [ih r]
theorem DRs.get {vs : List V} {ds : List D} (h : DRs K H vs ds) : ∀ (i : Nat) {d : D}, ds[i]? = some d → ∃ v, vs[i]? = some v ∧ DR K H v d := by
  induction ds generalizing vs with
  | nil => intro i d e; simp at e
  | cons d ds ih =>
    cases h with
    | cons h1 r =>
      intro i d' e
      cases i with
      | zero => simp at e; subst e; exact ⟨_, rfl, h1⟩
      | succ i => simp at e; simpa using ih r i e
theorem DRs.get' {vs : List V} {ds : List D} (h : DRs K H vs ds) (i : Nat) {v : V} (e : vs[i]? = some v) : ∃ d, ds[i]? = some d ∧ DR K H v d := by
  have hl := h.length
  have hi : i < vs.length := (List.getElem?_eq_some_iff.mp e).1
  obtain ⟨v', e', r⟩ := h.get i (d := ds[i]'(by omega)) (List.getElem?_eq_getElem (by omega))
  rw [e] at e'; cases e'
  exact ⟨_, List.getElem?_eq_getElem (by omega), r⟩
theorem DRs.append {vs ws : List V} {ds es : List D} (h : DRs K H vs ds) (h' : DRs K H ws es) : DRs K H (vs ++ ws) (ds ++ es) := by
  induction ds generalizing vs with
  | nil => cases h; exact h'
  | cons d ds ih => cases h with | cons h1 r => exact .cons h1 (ih r)
theorem DRs.take {vs : List V} {ds : List D} (h : DRs K H vs ds) (n : Nat) : DRs K H (vs.take n) (ds.take n) := by
  induction ds generalizing vs n with
  | nil => cases h; simp; exact .nil
  | cons d ds ih => cases h with | cons h1 r => cases n with
    | zero => exact .nil
    | succ n => exact .cons h1 (ih r n)
theorem DRs.drop {vs : List V} {ds : List D} (h : DRs K H vs ds) (n : Nat) : DRs K H (vs.drop n) (ds.drop n) := by
  induction ds generalizing vs n with
  | nil => cases h; simp; exact .nil
  | cons d ds ih => cases h with | cons h1 r => cases n with
    | zero => exact .cons h1 r
    | succ n => exact ih r n
theorem DRs.set {vs : List V} {ds : List D} {v : V} {d : D} (h : DRs K H vs ds) (r : DR K H v d) (n : Nat) : DRs K H (vs.set n v) (ds.set n d) := by
  induction ds generalizing vs n with
  | nil => cases h; exact .nil
  | cons d' ds ih => cases h with | cons h1 q => cases n with
    | zero => exact .cons r q
    | succ n => exact .cons h1 (ih q n)
theorem DRs.one {v : V} {d : D} (r : DR K H v d) : DRs K H [v] [d] := .cons r .nil
theorem DRs.inv1 {vs : List V} {d : D} (h : DRs K H vs [d]) : ∃ v, vs = [v] ∧ DR K H v d := by
  cases h with | cons h1 r => cases r; exact ⟨_, rfl, h1⟩
theorem DRs.inv2 {vs : List V} {d e : D} (h : DRs K H vs [d, e]) : ∃ v w, vs = [v, w] ∧ DR K H v d ∧ DR K H w e := by
  cases h with | cons h1 r => cases r with | cons h2 r => cases r; exact ⟨_, _, rfl, h1, h2⟩
theorem DRs.ints {vs : List V} {ns : List Int} (h : DRs K H vs (ns.map D.int)) : vs = ns.map V.int := by
  induction ns generalizing vs with
  | nil => cases h; rfl
  | cons n ns ih => cases h with | cons h1 r => cases h1; rw [ih r]; rfl
theorem DRs.of_ints (ns : List Int) : DRs K H (ns.map V.int) (ns.map D.int) := by
  induction ns with
  | nil => exact .nil
  | cons n ns ih => exact .cons (.int n) ih
theorem DRs.strs {vs : List V} {ns : List Str} (h : DRs K H vs (ns.map D.str)) : vs = ns.map V.str := by
  induction ns generalizing vs with
  | nil => cases h; rfl
  | cons n ns ih => cases h with | cons h1 r => cases h1; rw [ih r]; rfl
theorem DRs.of_strs (ns : List Str) : DRs K H (ns.map V.str) (ns.map D.str) := by
  induction ns with
  | nil => exact .nil
  | cons n ns ih => exact .cons (.str n) ih
theorem DRs.bls {vs : List V} {ns : List Bool} (h : DRs K H vs (ns.map D.bl)) : vs = ns.map V.bl := by
  induction ns generalizing vs with
  | nil => cases h; rfl
  | cons n ns ih => cases h with | cons h1 r => cases h1; rw [ih r]; rfl
end

/-! ### the heap without what is owned -/
def off (Z : List Addr) (H : Hp) : Hp := fun b => if b ∈ Z then none else H b
theorem off_nil {H : Hp} : off [] H = H := by funext b; simp [off]
theorem off_ne {Z : List Addr} {H : Hp} {b : Addr} (h : b ∉ Z) : off Z H b = H b := by unfold off; rw [if_neg h]
theorem off_in {Z : List Addr} {H : Hp} {b : Addr} (h : b ∈ Z) : off Z H b = none := by unfold off; rw [if_pos h]
theorem off_same {Z : List Addr} {H H' : Hp} (s : Same H H') : Same (off Z H) (off Z H') := fun b o e => by
  by_cases h : b ∈ Z
  · rw [off_in h] at e; cases e
  · rw [off_ne h] at e ⊢; exact s b o e
theorem off_sub {Y Z : List Addr} {H : Hp} (h : ∀ b ∈ Y, b ∈ Z) : Same (off Z H) (off Y H) := fun b o e => by
  by_cases hz : b ∈ Z
  · rw [off_in hz] at e; cases e
  · rw [off_ne hz] at e
    rw [off_ne fun q => hz (h b q)]; exact e
theorem off_le {Z : List Addr} {H : Hp} : Same (off Z H) H := fun b o e => by
  by_cases hz : b ∈ Z
  · rw [off_in hz] at e; cases e
  · rw [off_ne hz] at e; exact e
theorem off_upd_in {Z : List Addr} {H : Hp} {a : Addr} {o : HO} (h : a ∈ Z) : off Z (upd H a o) = off Z H := by
  funext b
  by_cases hz : b ∈ Z
  · rw [off_in hz, off_in hz]
  · rw [off_ne hz, off_ne hz, upd_ne]
    intro q; subst q; exact hz h
theorem same_upd {H : Hp} {a : Addr} {o : HO} (h : H a = none) : Same H (upd H a o) := fun b u e => by
  rw [upd_ne (ne_of_none e h)]; exact e
/-- the addresses of Z are there -/
def Al (Z : List Addr) (H : Hp) : Prop := ∀ b ∈ Z, H b ≠ none
theorem Al.mono {Z : List Addr} {H H' : Hp} (a : Al Z H) (s : Same H H') : Al Z H' := fun b hb => by
  have := a b hb
  cases e : H b with
  | none => exact absurd e this
  | some o => rw [s b o e]; intro q; cases q
theorem Al.new {Z : List Addr} {H : Hp} {p : Addr} (a : Al Z H) (h : H p = none) : p ∉ Z := fun hb => a p hb h

/-! ### what is owned -/
inductive MO where
  | lst (ds : List D) | dic (kvs : List (Key × D)) | exc (C : Addr) (fs : Option (List (Str × D)))
def MO.d : MO → D
  | .lst ds => .lst ds
  | .dic kvs => .dic kvs
  | .exc C fs => .exc C fs
inductive MR (K : PySem.W.Frag) (G : Hp) : Addr → HO → MO → Prop
  | lst {a : Addr} {vs : List V} {ds : List D} : DRs K G vs ds → MR K G a (.lst vs) (.lst ds)
  | dic {a : Addr} {vs : List (Key × V)} {ds : List (Key × D)} : DRk K G vs ds → MR K G a (.dK vs) (.dic ds)
  | exc0 {a C : Addr} {oe : Obj} : oe.cls = .ref C → oe.dict = none → (∃ vs, oe.data = .fields vs) → MR K G a (xo oe a) (.exc C none)
  | excD {a C d : Addr} {oe : Obj} {fs : List (Str × V)} {gs : List (Str × D)} : oe.cls = .ref C → oe.dict = some d → (∃ vs, oe.data = .fields vs) → G d = some (.xd fs) → DRf K G fs gs → MR K G a (xo oe a) (.exc C (some gs))
theorem MR.mono {K : PySem.W.Frag} {G G' : Hp} {a : Addr} {o : HO} {m : MO} (s : Same G G') (h : MR K G a o m) : MR K G' a o m := by
  cases h with
  | lst r => exact .lst (r.mono s)
  | dic r => exact .dic (r.mono s)
  | exc0 a b c => exact .exc0 a b c
  | excD a b c d r => exact .excD a b c (s _ _ d) (r.mono s)
theorem MR.dr {K : PySem.W.Frag} {G : Hp} {o : HO} {m : MO} {a : Addr} (h : MR K G a o m) (e : G a = some o) : DR K G (.ref a) m.d := by
  cases h with
  | lst r => exact .lst (SqL.of e) r
  | dic r => exact .dic e r
  | exc0 a b c => exact .exc0 e a b c
  | excD a b c d r => exact .excD e a b c d r
inductive Sl where
  | emp | dat (d : D) | own (m : MO)
/-- the slots σ over the heap H are ρ; data by G; owned: the addresses O -/
inductive Slots (K : PySem.W.Frag) (H G : Hp) : L2.St → List Sl → List Addr → Prop
  | nil : Slots K H G [] [] []
  | emp {v : Option V} {σ : L2.St} {ρ : List Sl} {O : List Addr} : Slots K H G σ ρ O → Slots K H G (v :: σ) (.emp :: ρ) O
  | dat {v : V} {d : D} {σ : L2.St} {ρ : List Sl} {O : List Addr} : DR K G v d → Slots K H G σ ρ O → Slots K H G (some v :: σ) (.dat d :: ρ) O
  | own {a : Addr} {o : HO} {m : MO} {σ : L2.St} {ρ : List Sl} {O : List Addr} : H a = some o → MR K G a o m → a ∉ O → Slots K H G σ ρ O → Slots K H G (some (.ref a) :: σ) (.own m :: ρ) (a :: O)
section
variable {K : PySem.W.Frag} {H H' G G' : Hp} {σ : L2.St} {ρ : List Sl} {O : List Addr}
theorem Slots.mono (h : Slots K H G σ ρ O) (s : ∀ a ∈ O, ∀ o, H a = some o → H' a = some o) (g : Same G G') : Slots K H' G' σ ρ O := by
  induction h with
  | nil => exact .nil
  | emp _ ih => exact .emp (ih s)
  | dat r _ ih => exact .dat (r.mono g) (ih s)
  | own e r n _ ih => exact .own (s _ (List.mem_cons_self) _ e) (r.mono g) n (ih fun a h => s a (List.mem_cons_of_mem _ h))
theorem Slots.there (h : Slots K H G σ ρ O) : Al O H := by
  induction h with
  | nil => intro b hb; cases hb
  | emp _ ih => exact ih
  | dat _ _ ih => exact ih
  | own e _ _ _ ih =>
    intro b hb
    rcases List.mem_cons.mp hb with rfl | hb
    · rw [e]; intro q; cases q
    · exact ih b hb
theorem Slots.len (h : Slots K H G σ ρ O) : σ.length = ρ.length := by
  induction h with
  | nil => rfl
  | emp _ ih => simp [ih]
  | dat _ _ ih => simp [ih]
  | own _ _ _ _ ih => simp [ih]
theorem Slots.get (h : Slots K H G σ ρ O) : ∀ {i : Nat} {d : D}, ρ[i]? = some (.dat d) → ∃ v, σ[i]? = some (some v) ∧ DR K G v d := by
  induction h with
  | nil => intro i d e; simp at e
  | emp _ ih =>
    intro i d e
    cases i with
    | zero => simp at e
    | succ i => simpa using ih (by simpa using e)
  | dat r _ ih =>
    intro i d e
    cases i with
    | zero => simp at e; subst e; exact ⟨_, rfl, r⟩
    | succ i => simpa using ih (by simpa using e)
  | own _ _ _ _ ih =>
    intro i d e
    cases i with
    | zero => simp at e
    | succ i => simpa using ih (by simpa using e)
/-- an owned slot: its object; what stands behind a change of it -/
theorem Slots.own_at (h : Slots K H G σ ρ O) : ∀ {i : Nat} {m : MO}, ρ[i]? = some (.own m) → ∃ a o, σ[i]? = some (some (.ref a)) ∧ a ∈ O ∧ H a = some o ∧ MR K G a o m ∧
    ∀ o' m', MR K G a o' m' → Slots K (upd H a o') G σ (ρ.set i (.own m')) O := by
  induction h with
  | nil => intro i m e; simp at e
  | emp _ ih =>
    intro i m e
    cases i with
    | zero => simp at e
    | succ i =>
      obtain ⟨a, o, e1, e2, e3, e4, k⟩ := ih (by simpa using e)
      exact ⟨a, o, by simpa using e1, e2, e3, e4, fun o' m' r => .emp (k o' m' r)⟩
  | dat r _ ih =>
    intro i m e
    cases i with
    | zero => simp at e
    | succ i =>
      obtain ⟨a, o, e1, e2, e3, e4, k⟩ := ih (by simpa using e)
      exact ⟨a, o, by simpa using e1, e2, e3, e4, fun o' m' r' => .dat r (k o' m' r')⟩
  | own e0 r n hs ih =>
    intro i m e
    cases i with
    | zero =>
      simp at e; subst e
      exact ⟨_, _, rfl, List.mem_cons_self, e0, r, fun o' m' r' => .own upd_same r' n (hs.mono (fun b hb o q => by
        rw [upd_ne]; exact q
        intro z; subst z; exact n hb) (Same.refl _))⟩
    | succ i =>
      obtain ⟨a, o, e1, e2, e3, e4, k⟩ := ih (by simpa using e)
      exact ⟨a, o, by simpa using e1, List.mem_cons_of_mem _ e2, e3, e4, fun o' m' r' => .own (by
        rw [upd_ne]; exact e0
        intro z; subst z; exact n e2) r n (k o' m' r')⟩
/-- a slot is stored -/
theorem Slots.set (h : Slots K H G σ ρ O) {v : V} {d : D} (r : DR K G v d) : ∀ (i : Nat), ∃ O', (∀ b ∈ O', b ∈ O) ∧ Slots K H G (σ.set i (some v)) (ρ.set i (.dat d)) O' := by
  induction h with
  | nil => intro i; exact ⟨[], fun _ h => h, .nil⟩
  | emp h ih =>
    intro i
    cases i with
    | zero => exact ⟨_, fun _ h => h, .dat r h⟩
    | succ i => obtain ⟨O', h1, h2⟩ := ih i; exact ⟨O', h1, .emp h2⟩
  | dat r' h ih =>
    intro i
    cases i with
    | zero => exact ⟨_, fun _ h => h, .dat r h⟩
    | succ i => obtain ⟨O', h1, h2⟩ := ih i; exact ⟨O', h1, .dat r' h2⟩
  | own e m n h ih =>
    intro i
    cases i with
    | zero => exact ⟨_, fun b hb => List.mem_cons_of_mem _ hb, .dat r h⟩
    | succ i =>
      obtain ⟨O', h1, h2⟩ := ih i
      refine ⟨_ :: O', fun b hb => ?_, .own e m (fun q => n (h1 _ q)) h2⟩
      rcases List.mem_cons.mp hb with rfl | hb
      · exact List.mem_cons_self
      · exact List.mem_cons_of_mem _ (h1 b hb)
/-- a new owned object is stored -/
theorem Slots.setOwn (h : Slots K H G σ ρ O) {p : Addr} {o : HO} {m : MO} (e : H p = some o) (r : MR K G p o m) (n : p ∉ O) : ∀ (i : Nat), i < ρ.length →
    ∃ O', (∀ b ∈ O', b = p ∨ b ∈ O) ∧ p ∈ O' ∧ Slots K H G (σ.set i (some (.ref p))) (ρ.set i (.own m)) O' := by
  induction h with
  | nil => intro i hi; simp at hi
  | emp h ih =>
    intro i hi
    cases i with
    | zero => exact ⟨p :: _, fun b hb => List.mem_cons.mp hb, List.mem_cons_self, .own e r n h⟩
    | succ i => obtain ⟨O', h1, h2, h3⟩ := ih n i (by simpa using hi); exact ⟨O', h1, h2, .emp h3⟩
  | dat r' h ih =>
    intro i hi
    cases i with
    | zero => exact ⟨p :: _, fun b hb => List.mem_cons.mp hb, List.mem_cons_self, .own e r n h⟩
    | succ i => obtain ⟨O', h1, h2, h3⟩ := ih n i (by simpa using hi); exact ⟨O', h1, h2, .dat r' h3⟩
  | own e' m' n' h ih =>
    intro i hi
    cases i with
    | zero =>
      refine ⟨p :: _, fun b hb => ?_, List.mem_cons_self, .own e r (fun q => n (List.mem_cons_of_mem _ q)) h⟩
      rcases List.mem_cons.mp hb with rfl | hb
      · exact .inl rfl
      · exact .inr (List.mem_cons_of_mem _ hb)
    | succ i =>
      obtain ⟨O', h1, h2, h3⟩ := ih (fun q => n (List.mem_cons_of_mem _ q)) i (by simpa using hi)
      refine ⟨_ :: O', fun b hb => ?_, List.mem_cons_of_mem _ h2, .own e' m' (fun q => ?_) h3⟩
      · rcases List.mem_cons.mp hb with rfl | hb
        · exact .inr List.mem_cons_self
        · exact (h1 b hb).imp id (List.mem_cons_of_mem _)
      · rcases h1 _ q with z | z
        · subst z; exact n List.mem_cons_self
        · exact n' z
/-- an owned object is given up: it is data from here on -/
theorem Slots.freeze (h : Slots K H G σ ρ O) : ∀ {i : Nat} {m : MO}, ρ[i]? = some (.own m) → ∃ a O', a ∈ O ∧ a ∉ O' ∧ (∀ b, b ∈ O → b = a ∨ b ∈ O') ∧ (∀ b ∈ O', b ∈ O) ∧
    ∀ G', Same G G' → G' a = H a → Slots K H G' σ (ρ.set i (.dat m.d)) O' := by
  induction h with
  | nil => intro i m e; simp at e
  | emp h ih =>
    intro i m e
    cases i with
    | zero => simp at e
    | succ i =>
      obtain ⟨a, O', h1, h2, h3, h4, k⟩ := ih (by simpa using e)
      exact ⟨a, O', h1, h2, h3, h4, fun G' s q => .emp (k G' s q)⟩
  | dat r h ih =>
    intro i m e
    cases i with
    | zero => simp at e
    | succ i =>
      obtain ⟨a, O', h1, h2, h3, h4, k⟩ := ih (by simpa using e)
      exact ⟨a, O', h1, h2, h3, h4, fun G' s q => .dat (r.mono s) (k G' s q)⟩
  | own e0 r n h ih =>
    intro i m e
    cases i with
    | zero =>
      simp at e; subst e
      refine ⟨_, _, List.mem_cons_self, n, fun b hb => List.mem_cons.mp hb, fun b hb => List.mem_cons_of_mem _ hb, fun G' s q => ?_⟩
      exact .dat ((r.mono s).dr (q.trans e0)) (h.mono (fun _ _ _ z => z) s)
    | succ i =>
      obtain ⟨a, O', h1, h2, h3, h4, k⟩ := ih (by simpa using e)
      refine ⟨a, _ :: O', List.mem_cons_of_mem _ h1, ?_, ?_, ?_, fun G' s q => .own e0 (r.mono s) (fun z => n (h4 _ z)) (k G' s q)⟩
      · intro z
        rcases List.mem_cons.mp z with z | z
        · subst z; exact n h1
        · exact h2 z
      · intro b hb
        rcases List.mem_cons.mp hb with rfl | hb
        · exact .inr List.mem_cons_self
        · exact (h3 b hb).imp id (List.mem_cons_of_mem _)
      · intro b hb
        rcases List.mem_cons.mp hb with rfl | hb
        · exact List.mem_cons_self
        · exact List.mem_cons_of_mem _ (h4 b hb)
end
/-- where a def stands: data avoid what is owned here (O) and by others (B) -/
structure At (K : PySem.W.Frag) (B O : List Addr) (σ : L2.St) (H : Hp) (ρ : List Sl) : Prop where
  sl : Slots K H (off (O ++ B) H) σ ρ O
  al : Al B H
  dj : ∀ b ∈ O, b ∉ B
section
variable {K : PySem.W.Frag} {B O : List Addr} {σ : L2.St} {H H' : Hp} {ρ : List Sl}
theorem At.all (A : At K B O σ H ρ) : Al (O ++ B) H := fun b hb => (List.mem_append.mp hb).elim (A.sl.there b) (A.al b)
theorem At.grow (A : At K B O σ H ρ) (s : Same H H') : At K B O σ H' ρ := ⟨A.sl.mono (fun a _ o e => s a o e) (off_same s), A.al.mono s, A.dj⟩
/-- one more address that is not ours -/
theorem At.more (A : At K B O σ H ρ) {p : Addr} {o : HO} (hp : H p = none) (s : Same H (off [p] H')) (hH : H' p = some o) : At K (p :: B) O σ H' ρ := by
  have s' : Same H H' := s.trans off_le
  have hpO : p ∉ O ++ B := A.all.new hp
  refine ⟨A.sl.mono (fun a _ o e => s' a o e) fun b o e => ?_, fun b hb => ?_, fun b hb hq => ?_⟩
  · have h2 : b ∉ O ++ B := fun q => by rw [off_in q] at e; cases e
    rw [off_ne h2] at e
    have h3 : b ≠ p := ne_of_none e hp
    have h4 : b ∉ O ++ (p :: B) := fun q => by
      rcases List.mem_append.mp q with q | q
      · exact h2 (List.mem_append_left _ q)
      · rcases List.mem_cons.mp q with q | q
        · exact h3 q
        · exact h2 (List.mem_append_right _ q)
    rw [off_ne h4]
    exact s' _ _ e
  · rcases List.mem_cons.mp hb with rfl | hb
    · rw [hH]; intro q; cases q
    · exact A.al.mono s' b hb
  · rcases List.mem_cons.mp hq with rfl | hq
    · exact hpO (List.mem_append_left _ hb)
    · exact A.dj b hb hq
end
/-- a slot that was not owned is stored -/
theorem Slots.set' {K : PySem.W.Frag} {H G : Hp} {σ : L2.St} {ρ : List Sl} {O : List Addr} (h : Slots K H G σ ρ O) {v : V} {d : D} (r : DR K G v d) : ∀ (i : Nat), (∀ m, ρ[i]? ≠ some (.own m)) → Slots K H G (σ.set i (some v)) (ρ.set i (.dat d)) O := by
  induction h with
  | nil => intro i _; exact .nil
  | emp h ih =>
    intro i hn
    cases i with
    | zero => exact .dat r h
    | succ i => exact .emp (ih i fun m q => hn m (by simpa using q))
  | dat r' h ih =>
    intro i hn
    cases i with
    | zero => exact .dat r h
    | succ i => exact .dat r' (ih i fun m q => hn m (by simpa using q))
  | own e m n h ih =>
    intro i hn
    cases i with
    | zero => exact absurd rfl (hn _)
    | succ i => exact .own e m n (ih i fun m q => hn m (by simpa using q))
theorem Slots.clr {K : PySem.W.Frag} {H G : Hp} {σ : L2.St} {ρ : List Sl} {O : List Addr} (h : Slots K H G σ ρ O) : ∀ (i : Nat), (∀ m, ρ[i]? ≠ some (.own m)) → Slots K H G (σ.set i none) (ρ.set i .emp) O := by
  induction h with
  | nil => intro i _; exact .nil
  | emp h ih =>
    intro i hn
    cases i with
    | zero => exact .emp h
    | succ i => exact .emp (ih i fun m q => hn m (by simpa using q))
  | dat r' h ih =>
    intro i hn
    cases i with
    | zero => exact .emp h
    | succ i => exact .dat r' (ih i fun m q => hn m (by simpa using q))
  | own e m n h ih =>
    intro i hn
    cases i with
    | zero => exact absurd rfl (hn _)
    | succ i => exact .own e m n (ih i fun m q => hn m (by simpa using q))
end DL
set_option Elab.async false
set_option linter.all false
set_option maxRecDepth 100000
set_option maxHeartbeats 1000000
/-! DL2: expressions by data. -/
namespace DL
open PySem PySem.Spec PyProof.Rows L2

/-- hidden from evaluation -/
structure Hd (p : Prop) : Prop where
  run : p
/-- the strongest readings -/
def SE (X : Cx) (e : Expr) : TE := fun σ H Q => Hd (∀ (pins : List (Addr × Obj)) (s : Shared), Inv X pins σ H s → wpAny (model X.prog X.w) X.A (eval e X.env) (EP X pins σ Q) X.xe s)
def ST (X : Cx) (e : Expr) : TT := fun σ H Q => Hd (∀ (pins : List (Addr × Obj)) (s : Shared), Inv X pins σ H s → wpAny (model X.prog X.w) X.A (isTrue e X.env (eval e X.env)) (TP X pins σ Q) X.xe s)
def SW (X : Cx) (e : Expr) : TT := fun σ H Q => Hd (∀ (whole : Sem Value) (pins : List (Addr × Obj)) (s : Shared), Inv X pins σ H s → wpAny (model X.prog X.w) X.A (isTrue e X.env whole) (TP X pins σ Q) X.xe s)
def SA (X : Cx) (es : List Expr) : TA := fun σ H Q => Hd (∀ (pos : Pos) (pins : List (Addr × Obj)) (s : Shared), Inv X pins σ H s → wpAny (model X.prog X.w) X.A (spliced (backTo pos (starEach es X.env))) (AP X pins σ Q) X.xe s)
def SG (X : Cx) (tg : Expr) : TG := fun v σ H Q => Hd (∀ (pins : List (Addr × Obj)) (s : Shared) (u : Value), Inv X pins σ H s → RelV v u →
  wpAny (model X.prog X.w) X.A (assign tg X.env u) (fun _ s' => ∃ σ' H', Inv X pins σ' H' s' ∧ Q σ' H') X.xe s)
theorem pe_se {X : Cx} {e : Expr} : PE X e (SE X e) := ⟨fun pins s σ H Q I h => h.run pins s I⟩
theorem pt_st {X : Cx} {e : Expr} : PT X e (ST X e) := ⟨fun pins s σ H Q I h => h.run pins s I⟩
theorem pw_sw {X : Cx} {e : Expr} : PW X e (SW X e) := ⟨fun wh pins s σ H Q I h => h.run wh pins s I⟩
theorem pa_sa {X : Cx} {es : List Expr} : PA X es (SA X es) := ⟨fun pos pins s σ H Q I h => h.run pos pins s I⟩
theorem pg_sg {X : Cx} {tg : Expr} : PG X tg (SG X tg) := ⟨fun pins s σ H v u Q I r h => h.run pins s u I r⟩
theorem _root_.L2.PE.se {X : Cx} {e : Expr} {t : TE} (h : PE X e t) {σ : L2.St} {H : Hp} {Q : VK} (q : t σ H Q) : SE X e σ H Q := ⟨fun pins s I => h.run pins s σ H Q I q⟩
theorem _root_.L2.PT.st {X : Cx} {e : Expr} {t : TT} (h : PT X e t) {σ : L2.St} {H : Hp} {Q : Bool → Hp → Prop} (q : t σ H Q) : ST X e σ H Q := ⟨fun pins s I => h.run pins s σ H Q I q⟩
theorem _root_.L2.PW.sw {X : Cx} {e : Expr} {t : TT} (h : PW X e t) {σ : L2.St} {H : Hp} {Q : Bool → Hp → Prop} (q : t σ H Q) : SW X e σ H Q := ⟨fun wh pins s I => h.run wh pins s σ H Q I q⟩
theorem _root_.L2.PA.sa {X : Cx} {es : List Expr} {t : TA} (h : PA X es t) {σ : L2.St} {H : Hp} {Q : List V → Hp → Prop} (q : t σ H Q) : SA X es σ H Q := ⟨fun pos pins s I => h.run pos pins s σ H Q I q⟩
theorem _root_.L2.PG.sg {X : Cx} {tg : Expr} {t : TG} (h : PG X tg t) {v : V} {σ : L2.St} {H : Hp} {Q : L2.St → Hp → Prop} (q : t v σ H Q) : SG X tg v σ H Q := ⟨fun pins s u I r => h.run pins s σ H v u Q I r q⟩

/-- what follows a value -/
abbrev Yld (K : PySem.W.Frag) (Z : List Addr) (H : Hp) (d : D) (Q : VK) : Prop := ∀ v H', Same H H' → DR K (off Z H') v d → Q v H'
/-- what follows a new object -/
abbrev New (K : PySem.W.Frag) (Z : List Addr) (H : Hp) (m : MO) (Q : VK) : Prop := ∀ p o H', H p = none → Same H H' → H' p = some o → MR K (off (p :: Z) H') p o m → Q (.ref p) H'
/-- e gives the data d, changes nothing -/
def DE (X : Cx) (ρ : List Sl) (e : Expr) (d : D) : Prop := ∀ B O σ H Q, At X.K B O σ H ρ → Yld X.K (O ++ B) H d Q → SE X e σ H Q
/-- e gives a new object m -/
def DF (X : Cx) (ρ : List Sl) (e : Expr) (m : MO) : Prop := ∀ B O σ H Q, At X.K B O σ H ρ → New X.K (O ++ B) H m Q → SE X e σ H Q
def DA (X : Cx) (ρ : List Sl) (es : List Expr) (ds : List D) : Prop := ∀ B O σ H Q, At X.K B O σ H ρ → (∀ vs H', Same H H' → DRs X.K (off (O ++ B) H') vs ds → Q vs H') → SA X es σ H Q
def DT (X : Cx) (ρ : List Sl) (e : Expr) (b : Bool) : Prop := ∀ B O σ H (Q : Bool → Hp → Prop), At X.K B O σ H ρ → (∀ H', Same H H' → Q b H') → ST X e σ H Q
def DW (X : Cx) (ρ : List Sl) (e : Expr) (b : Bool) : Prop := ∀ B O σ H (Q : Bool → Hp → Prop), At X.K B O σ H ρ → (∀ H', Same H H' → Q b H') → SW X e σ H Q

section
variable {X : Cx} {ρ : List Sl} {e a b c : Expr} {es rest : List Expr} {d da db : D} {ds : List D} {m : MO} {pos p apos : Pos} {K : PySem.W.Frag}
theorem Yld.grow {Z : List Addr} {H H1 : Hp} {Q : VK} (k : Yld K Z H d Q) (s : Same H H1) : Yld K Z H1 d Q := fun v H' s' r => k v H' (s.trans s') r
theorem New.grow {Z : List Addr} {H H1 : Hp} {Q : VK} (k : New K Z H m Q) (s : Same H H1) : New K Z H1 m Q := fun p o H' n s' => k p o H' (s.free n) (s.trans s')
/-- a new object is data -/
theorem DF.de (h : DF X ρ e m) : DE X ρ e m.d := fun B O σ H Q A k => h B O σ H Q A fun p o H' n s e r => by
  refine k _ _ s (r.mono (off_sub fun b hb => List.mem_cons_of_mem _ hb) |>.dr ?_)
  rw [off_ne (A.all.new n)]; exact e
theorem DE.eq {d' : D} (h : DE X ρ e d) (q : d = d') : DE X ρ e d' := q ▸ h
theorem DF.eq {m' : MO} (h : DF X ρ e m) (q : m = m') : DF X ρ e m' := q ▸ h
theorem DT.eq {x y : Bool} (h : DT X ρ e x) (q : x = y) : DT X ρ e y := q ▸ h

/-! ### names, constants -/
theorem de_var (i : Nat) {x : Str} {d : D} (hρ : ρ[i]? = some (.dat d) := by rfl) (hN : X.N[i]? = some x := by rfl) (hv : Vis X.env.scope x := by first | exact .inl rfl | exact .inr (.inl rfl) | exact .inr (.inr rfl))
    (hd : (x == ("__debug__" : Str)) = false := by decide) (hcd : (x == ("__classdict__" : Str)) = false := by decide) : DE X ρ (.Name x pos) d := fun B O σ H Q A k => by
  obtain ⟨v, e, r⟩ := A.sl.get hρ
  exact (pe_var hN hv hd hcd).se ⟨v, e, k _ _ (Same.refl _) r⟩
theorem de_int {i : Int} {j : Nat} : DE X ρ (.Constant (.int i) j pos) (.int i) := fun B O σ H Q A k => pe_int.se (k _ _ (Same.refl _) (.int i))
theorem de_bl {b : Bool} {j : Nat} : DE X ρ (.Constant (.bool b) j pos) (.bl b) := fun B O σ H Q A k => pe_bl.se (k _ _ (Same.refl _) (.bl b))
theorem de_non {j : Nat} : DE X ρ (.Constant .none j pos) .non := fun B O σ H Q A k => pe_non.se (k _ _ (Same.refl _) .non)
theorem de_str {x : Str} {j : Nat} : DE X ρ (.Constant (.str x) j pos) (.str x) := fun B O σ H Q A k => pe_str.se (k _ _ (Same.refl _) (.str x))
theorem de_glob {x : Str} {v : V} {u : Value} (hg : Gl X x) (hm : X.mg x = some u) (r : RelV v u) (hr : ∀ H, DR X.K H v d) (hd : (x == ("__debug__" : Str)) = false := by decide) : DE X ρ (.Name x pos) d := fun B O σ H Q A k =>
  (pe_glob hg hm r hd).se (k _ _ (Same.refl _) (hr _))

/-! ### operators -/
theorem de_op {op : Operator} {r : R2} (ho : OpR X (binaryOp op) r) (ha : DE X ρ a da) (hb : DE X ρ b db)
    (h : ∀ Z H x y Q, DR X.K (off Z H) x da → DR X.K (off Z H) y db → Al Z H → Yld X.K Z H d Q → r x y H Q) : DE X ρ (.BinOp a op b pos) d := fun B O σ H Q A k =>
  (pe_op ho pe_se pe_se).se (ha B O σ H _ A fun x H1 s1 r1 => hb B O σ H1 _ (A.grow s1) fun y H2 s2 r2 => h _ _ _ _ _ (r1.mono (off_same s2)) r2 (A.all.mono (s1.trans s2)) (k.grow (s1.trans s2)))
theorem df_op {op : Operator} {r : R2} (ho : OpR X (binaryOp op) r) (ha : DE X ρ a da) (hb : DE X ρ b db)
    (h : ∀ Z H x y Q, DR X.K (off Z H) x da → DR X.K (off Z H) y db → Al Z H → New X.K Z H m Q → r x y H Q) : DF X ρ (.BinOp a op b pos) m := fun B O σ H Q A k =>
  (pe_op ho pe_se pe_se).se (ha B O σ H _ A fun x H1 s1 r1 => hb B O σ H1 _ (A.grow s1) fun y H2 s2 r2 => h _ _ _ _ _ (r1.mono (off_same s2)) r2 (A.all.mono (s1.trans s2)) (k.grow (s1.trans s2)))
theorem de_un {op : UnaryOp} {r : V → Hp → VK → Prop} (ho : UnR X (unaryOp op) r) (ha : DE X ρ a da)
    (h : ∀ Z H x Q, DR X.K (off Z H) x da → Al Z H → Yld X.K Z H d Q → r x H Q) : DE X ρ (.UnaryOp op a pos) d := fun B O σ H Q A k =>
  (pe_un ho pe_se).se (ha B O σ H _ A fun x H1 s1 r1 => h _ _ _ _ r1 (A.all.mono s1) (k.grow s1))
/-- two ints -/
theorem de_opI {op : Operator} {C : Int → Int → Prop} {g : Int → Int → V} {i j : Int} (ho : OpR X (binaryOp op) (rI C g)) (ha : DE X ρ a (.int i)) (hb : DE X ρ b (.int j)) (hc : C i j) (hr : ∀ H, DR X.K H (g i j) d) : DE X ρ (.BinOp a op b pos) d :=
  de_op ho ha hb fun Z H x y Q r1 r2 _ k => by
    cases r1; cases r2
    exact ⟨_, _, rfl, rfl, hc, k _ _ (Same.refl _) (hr _)⟩
theorem de_opI0 {op : Operator} {g : Int → Int → V} {i j : Int} (ho : OpR X (binaryOp op) (rI0 g)) (ha : DE X ρ a (.int i)) (hb : DE X ρ b (.int j)) (hr : ∀ H, DR X.K H (g i j) d) : DE X ρ (.BinOp a op b pos) d :=
  de_op ho ha hb fun Z H x y Q r1 r2 _ k => by
    cases r1; cases r2
    exact ⟨_, _, rfl, rfl, k _ _ (Same.refl _) (hr _)⟩
variable {i j : Int}
theorem de_add (ha : DE X ρ a (.int i)) (hb : DE X ρ b (.int j)) : DE X ρ (.BinOp a .Add b pos) (.int (i + j)) := de_opI0 op_add ha hb fun _ => .int _
theorem de_sub (ha : DE X ρ a (.int i)) (hb : DE X ρ b (.int j)) : DE X ρ (.BinOp a .Sub b pos) (.int (i - j)) := de_opI0 op_sub ha hb fun _ => .int _
theorem de_mul (ha : DE X ρ a (.int i)) (hb : DE X ρ b (.int j)) (hc : CMul i j) : DE X ρ (.BinOp a .Mult b pos) (.int (i * j)) := de_opI op_mul ha hb hc fun _ => .int _
theorem de_mod (ha : DE X ρ a (.int i)) (hb : DE X ρ b (.int j)) (hc : 0 < j) : DE X ρ (.BinOp a .Mod b pos) (.int (i % j)) := de_opI op_mod ha hb hc fun _ => .int _
theorem de_fdiv (ha : DE X ρ a (.int i)) (hb : DE X ρ b (.int j)) (hc : 0 < j ∧ j < 1073741824) : DE X ρ (.BinOp a .FloorDiv b pos) (.int (i / j)) := de_opI op_fdiv ha hb hc fun _ => .int _
theorem de_pow (ha : DE X ρ a (.int i)) (hb : DE X ρ b (.int j)) (hc : CPow i j) : DE X ρ (.BinOp a .Pow b pos) (.int (i ^ j.toNat)) := de_opI op_pow ha hb hc fun _ => .int _
theorem de_neg (ha : DE X ρ a (.int i)) : DE X ρ (.UnaryOp .USub a pos) (.int (-i)) := de_un un_neg ha fun Z H x Q r1 _ k => by
  cases r1; exact ⟨_, rfl, k _ _ (Same.refl _) (.int _)⟩
theorem de_addS {x y : Str} (ha : DE X ρ a (.str x)) (hb : DE X ρ b (.str y)) (hc : x.length + y.length ≤ sizeLine) : DE X ρ (.BinOp a .Add b pos) (.str (x ++ y)) := de_op op_add_str ha hb fun Z H x y Q r1 r2 _ k => by
  cases r1; cases r2
  exact ⟨_, _, rfl, rfl, hc, k _ _ (Same.refl _) (.str _)⟩
/-! ### comparisons, as values and as tests -/
theorem de_cmpG {op : CmpOp} {r : R2} (ho : OpR X (compareOp op) r) (ha : DE X ρ a da) (hb : DE X ρ b db) (hm : behindInMarks op b = false)
    (h : ∀ Z H x y Q, DR X.K (off Z H) x da → DR X.K (off Z H) y db → Yld X.K Z H d Q → r x y H Q) : DE X ρ (.Compare a [op] [b] pos) d := fun B O σ H Q A k =>
  (pe_cmpR ho pe_se pe_se hm).se (ha B O σ H _ A fun x H1 s1 r1 => hb B O σ H1 _ (A.grow s1) fun y H2 s2 r2 => h _ _ _ _ _ (r1.mono (off_same s2)) r2 (k.grow (s1.trans s2)))
theorem dt_cmpG {op : CmpOp} {r : R2} {z : Bool} (ho : OpR X (compareOp op) r) (ha : DE X ρ a da) (hb : DE X ρ b db) (hm : behindInMarks op b = false)
    (h : ∀ Z H x y Q, DR X.K (off Z H) x da → DR X.K (off Z H) y db → Yld X.K Z H (.bl z) Q → r x y H Q) : DT X ρ (.Compare a [op] [b] pos) z := fun B O σ H Q A k =>
  (pt_cmpR ho pe_se pe_se hm).st (ha B O σ H _ A fun x H1 s1 r1 => hb B O σ H1 _ (A.grow s1) fun y H2 s2 r2 => h (O ++ B) _ _ _ _ (r1.mono (off_same s2)) r2 fun v H3 s3 r3 => by
    cases r3; exact ⟨_, rfl, k _ (s1.trans (s2.trans s3))⟩)
/-- a comparison: its rule -/
structure CmpD (X : Cx) (op : CmpOp) (da db : D) (z : Bool) : Prop where
  ok : ∃ r, OpR X (compareOp op) r ∧ ∀ Z H x y Q, DR X.K (off Z H) x da → DR X.K (off Z H) y db → Yld X.K Z H (.bl z) Q → r x y H Q
theorem de_cmp {op : CmpOp} {z : Bool} (c : CmpD X op da db z) (ha : DE X ρ a da) (hb : DE X ρ b db) (hm : behindInMarks op b = false := by first | exact nomark _ | rfl) : DE X ρ (.Compare a [op] [b] pos) (.bl z) := by
  obtain ⟨r, ho, h⟩ := c.ok
  exact de_cmpG ho ha hb hm h
theorem dt_cmp {op : CmpOp} {z : Bool} (c : CmpD X op da db z) (ha : DE X ρ a da) (hb : DE X ρ b db) (hm : behindInMarks op b = false := by first | exact nomark _ | rfl) : DT X ρ (.Compare a [op] [b] pos) z := by
  obtain ⟨r, ho, h⟩ := c.ok
  exact dt_cmpG ho ha hb hm h
theorem c_int {op : CmpOp} {g : Int → Int → Bool} (ho : OpR X (compareOp op) (rI0 fun i j => .bl (g i j))) : CmpD X op (.int i) (.int j) (g i j) := ⟨_, ho, fun Z H x y Q r1 r2 k => by
  cases r1; cases r2
  exact ⟨_, _, rfl, rfl, k _ _ (Same.refl _) (.bl _)⟩⟩
theorem c_lt : CmpD X .Lt (.int i) (.int j) (decide (i < j)) := c_int op_lt
theorem c_le : CmpD X .LtE (.int i) (.int j) (decide (i ≤ j)) := c_int op_le
theorem c_gt : CmpD X .Gt (.int i) (.int j) (decide (j < i)) := c_int op_gt
theorem c_ge : CmpD X .GtE (.int i) (.int j) (decide (j ≤ i)) := c_int op_ge
theorem c_eq : CmpD X .Eq (.int i) (.int j) (decide (i = j)) := ⟨_, op_eq, fun Z H x y Q r1 r2 k => by
  cases r1; cases r2
  refine ⟨rfl, k _ _ (Same.refl _) ?_⟩
  rw [dec_int]; exact (by rw [Bool.beq_eq_decide_eq]; exact .bl _)⟩
theorem c_ne : CmpD X .NotEq (.int i) (.int j) (!decide (i = j)) := ⟨_, op_ne, fun Z H x y Q r1 r2 k => by
  cases r1; cases r2
  refine ⟨rfl, k _ _ (Same.refl _) ?_⟩
  rw [dec_int]; exact (by rw [Bool.beq_eq_decide_eq]; exact .bl _)⟩
theorem c_eqS {x y : Str} : CmpD X .Eq (.str x) (.str y) (decide (x = y)) := ⟨_, op_eq, fun Z H x y Q r1 r2 k => by
  cases r1; cases r2
  refine ⟨rfl, k _ _ (Same.refl _) ?_⟩
  rw [dec_str]; exact (by rw [Bool.beq_eq_decide_eq]; exact .bl _)⟩
theorem c_neS {x y : Str} : CmpD X .NotEq (.str x) (.str y) (!decide (x = y)) := ⟨_, op_ne, fun Z H x y Q r1 r2 k => by
  cases r1; cases r2
  refine ⟨rfl, k _ _ (Same.refl _) ?_⟩
  rw [dec_str]; exact (by rw [Bool.beq_eq_decide_eq]; exact .bl _)⟩
theorem c_eqB {x y : Bool} : CmpD X .Eq (.bl x) (.bl y) (decide (x = y)) := ⟨_, op_eq, fun Z H x y Q r1 r2 k => by
  cases r1; cases r2
  refine ⟨rfl, k _ _ (Same.refl _) ?_⟩
  rw [dec_bl]; exact (by rw [Bool.beq_eq_decide_eq]; exact .bl _)⟩
theorem c_neB {x y : Bool} : CmpD X .NotEq (.bl x) (.bl y) (!decide (x = y)) := ⟨_, op_ne, fun Z H x y Q r1 r2 k => by
  cases r1; cases r2
  refine ⟨rfl, k _ _ (Same.refl _) ?_⟩
  rw [dec_bl]; exact (by rw [Bool.beq_eq_decide_eq]; exact .bl _)⟩
def D.isNon : D → Bool
  | .non => true
  | _ => false
theorem DR.nonV {G : Hp} {v : V} (r : DR K G v d) : decide (v = .non) = d.isNon := by
  cases r <;> rfl
theorem c_isN : CmpD X .Is d .non d.isNon := ⟨_, op_isN, fun Z H x y Q r1 r2 k => by
  cases r2
  refine ⟨rfl, k _ _ (Same.refl _) ?_⟩
  rw [r1.nonV]; exact .bl _⟩
theorem c_notN : CmpD X .IsNot d .non (!d.isNon) := ⟨_, op_notN, fun Z H x y Q r1 r2 k => by
  cases r2
  refine ⟨rfl, k _ _ (Same.refl _) ?_⟩
  rw [r1.nonV]; exact .bl _⟩
theorem de_chain {op op' : CmpOp} {dc : D} {x y : Bool} (c1 : CmpD X op da db x) (c2 : CmpD X op' db dc y) (ha : DE X ρ a da) (hb : DE X ρ b db) (hc : DE X ρ c dc)
    (hm : lastMarks [op, op'] [b, c] = false := by with_unfolding_all rfl) : DE X ρ (.Compare a [op, op'] [b, c] pos) (.bl (x && y)) := by
  obtain ⟨r, ho, h⟩ := c1.ok
  obtain ⟨r', ho', h'⟩ := c2.ok
  intro B O σ H Q A k
  refine (pe_chain ho ho' pe_se pe_se pe_se hm).se ?_
  refine ha B O σ H _ A fun v1 H1 s1 r1 => hb B O σ H1 _ (A.grow s1) fun v2 H2 s2 r2 => h (O ++ B) _ _ _ _ (r1.mono (off_same s2)) r2 fun v3 H3 s3 r3 => ?_
  cases r3
  refine ⟨_, rfl, ?_⟩
  cases x with
  | false => rw [if_neg Bool.false_ne_true]; exact k _ _ (s1.trans (s2.trans s3)) (.bl _)
  | true =>
    rw [if_pos rfl]
    refine hc B O σ H3 _ (A.grow (s1.trans (s2.trans s3))) fun v4 H4 s4 r4 => h' (O ++ B) _ _ _ _ (r2.mono (off_same (s3.trans s4))) r4 fun v5 H5 s5 r5 => ?_
    cases r5
    first | exact k _ _ (s1.trans (s2.trans (s3.trans (s4.trans s5)))) (.bl _) | exact ⟨_, rfl, k _ _ (s1.trans (s2.trans (s3.trans (s4.trans s5)))) (.bl _)⟩
/-! ### tests -/
theorem dt_val {z : Bool} (h : DE X ρ e (.bl z)) (he : ∀ whole, isTrue e X.env whole = (do let v ← whole; standAt e.pos; holding [v] (truthy v)) := by intro _; rfl) : DT X ρ e z := fun B O σ H Q A k =>
  (pt_val pe_se he).st (h B O σ H _ A fun v H1 s1 r1 => by cases r1; exact ⟨_, rfl, k _ s1⟩)
theorem dt_not {z : Bool} (h : DT X ρ a z) : DT X ρ (.UnaryOp .Not a pos) (!z) := fun B O σ H Q A k => (pt_not pt_st).st (h B O σ H _ A fun H1 s1 => k _ s1)
theorem DW.dt {z : Bool} (h : DW X ρ e z) : DT X ρ e z := fun B O σ H Q A k => (PW.pt pw_sw).st (h B O σ H Q A k)
theorem dw_and1 {z : Bool} (h : DT X ρ a z) : DW X ρ (.BoolOp .And [a] pos) z := fun B O σ H Q A k => (pw_and1 pt_st).sw (h B O σ H Q A k)
theorem dw_or1 {z : Bool} (h : DT X ρ a z) : DW X ρ (.BoolOp .Or [a] pos) z := fun B O σ H Q A k => (pw_or1 pt_st).sw (h B O σ H Q A k)
theorem dw_and {x y : Bool} (h : DT X ρ a x) (h' : x = true → DW X ρ (.BoolOp .And (b :: rest) pos) y) : DW X ρ (.BoolOp .And (a :: b :: rest) pos) (x && y) := fun B O σ H Q A k =>
  (pw_and pt_st pw_sw).sw (h B O σ H _ A fun H1 s1 => by
    cases x with
    | false => rw [if_neg Bool.false_ne_true]; exact k _ s1
    | true => rw [if_pos rfl]; exact h' rfl B O σ H1 _ (A.grow s1) fun H2 s2 => k _ (s1.trans s2))
theorem dw_or {x y : Bool} (h : DT X ρ a x) (h' : x = false → DW X ρ (.BoolOp .Or (b :: rest) pos) y) : DW X ρ (.BoolOp .Or (a :: b :: rest) pos) (x || y) := fun B O σ H Q A k =>
  (pw_or pt_st pw_sw).sw (h B O σ H _ A fun H1 s1 => by
    cases x with
    | true => rw [if_pos rfl]; exact k _ s1
    | false => rw [if_neg Bool.false_ne_true]; exact h' rfl B O σ H1 _ (A.grow s1) fun H2 s2 => k _ (s1.trans s2))
/-- and, or, not as values (bools) -/
theorem de_one {op} (h : DE X ρ a d) : DE X ρ (.BoolOp op [a] pos) d := fun B O σ H Q A k => (pe_one pe_se).se (h B O σ H Q A k)
theorem de_and {x y : Bool} (h : DE X ρ a (.bl x)) (h' : x = true → DE X ρ (.BoolOp .And (b :: rest) pos) (.bl y)) : DE X ρ (.BoolOp .And (a :: b :: rest) pos) (.bl (x && y)) := fun B O σ H Q A k =>
  (pe_and pe_se pe_se).se (h B O σ H _ A fun v H1 s1 r1 => by
    cases r1
    refine ⟨_, rfl, ?_⟩
    cases x with
    | false => rw [if_neg Bool.false_ne_true]; exact k _ _ s1 (.bl _)
    | true => rw [if_pos rfl]; exact h' rfl B O σ H1 _ (A.grow s1) fun v H2 s2 r2 => k _ _ (s1.trans s2) r2)
theorem de_or {x y : Bool} (h : DE X ρ a (.bl x)) (h' : x = false → DE X ρ (.BoolOp .Or (b :: rest) pos) (.bl y)) : DE X ρ (.BoolOp .Or (a :: b :: rest) pos) (.bl (x || y)) := fun B O σ H Q A k =>
  (pe_or pe_se pe_se).se (h B O σ H _ A fun v H1 s1 r1 => by
    cases r1
    refine ⟨_, rfl, ?_⟩
    cases x with
    | true => rw [if_pos rfl]; exact k _ _ s1 (.bl _)
    | false => rw [if_neg Bool.false_ne_true]; exact h' rfl B O σ H1 _ (A.grow s1) fun v H2 s2 r2 => k _ _ (s1.trans s2) r2)
theorem de_not {x : Bool} (h : DE X ρ a (.bl x)) : DE X ρ (.UnaryOp .Not a pos) (.bl (!x)) := fun B O σ H Q A k => (pe_not pe_se).se (h B O σ H _ A fun v H1 s1 r1 => by
  cases r1; exact ⟨_, rfl, k _ _ s1 (.bl _)⟩)
theorem de_if {z : Bool} {d' : D} (h : DT X ρ c z) (h1 : z = true → DE X ρ a d) (h2 : z = false → DE X ρ b d') : DE X ρ (.IfExp c a b pos) (if z = true then d else d') := fun B O σ H Q A k =>
  (pe_ifExp pt_st pe_se pe_se).se (h B O σ H _ A fun H1 s1 => by
    cases z with
    | true => rw [if_pos rfl]; exact h1 rfl B O σ H1 _ (A.grow s1) fun v H2 s2 r => k _ _ (s1.trans s2) (by rw [if_pos rfl]; exact r)
    | false => rw [if_neg Bool.false_ne_true]; exact h2 rfl B O σ H1 _ (A.grow s1) fun v H2 s2 r => k _ _ (s1.trans s2) (by rw [if_neg Bool.false_ne_true]; exact r))

/-! ### argument lists, displays -/
theorem da_nil : DA X ρ [] [] := fun B O σ H Q A k => pa_nil.sa (k _ _ (Same.refl _) .nil)
theorem da_cons (h : DE X ρ e d) (h' : DA X ρ es ds) (hs : starEach (e :: es) X.env = (false, eval e X.env) :: starEach es X.env := by rfl) : DA X ρ (e :: es) (d :: ds) := fun B O σ H Q A k =>
  (pa_cons pe_se pa_sa hs).sa (h B O σ H _ A fun v H1 s1 r1 => h' B O σ H1 _ (A.grow s1) fun vs H2 s2 r2 => k _ _ (s1.trans s2) (.cons (r1.mono (off_same s2)) r2))
theorem de_tup {x1} (h : DA X ρ es ds) (hl : ds.length ≤ sizeLine := by first | decide +kernel | (simp only [List.length_cons, List.length_nil]; decide +kernel)) : DE X ρ (.Tuple es x1 pos) (.tup ds) := fun B O σ H Q A k =>
  (pe_tup pa_sa).se (h B O σ H _ A fun vs H1 s1 r1 => ⟨by rw [r1.length]; exact hl, fun p hp => k _ _ (s1.trans (same_upd hp)) (.tup (SqT.of (by rw [off_ne ((A.all.mono s1).new hp)]; exact upd_same)) (r1.mono (off_same (same_upd hp))))⟩)
theorem df_lst (h : DA X ρ es ds) (hl : ds.length ≤ sizeLine := by first | decide +kernel | (simp only [List.length_cons, List.length_nil]; decide +kernel)) : DF X ρ (.List es pos) (.lst ds) := fun B O σ H Q A k =>
  (pe_lst pa_sa).se (h B O σ H _ A fun vs H1 s1 r1 => ⟨by rw [r1.length]; exact hl, fun p hp => k p _ _ (s1.free hp) (s1.trans (same_upd hp)) upd_same (.lst (r1.mono fun b o e => by
    have hb : b ∉ O ++ B := fun q => by rw [off_in q] at e; cases e
    rw [off_ne hb] at e
    have hbp : b ≠ p := ne_of_none e hp
    rw [off_ne (fun q => (List.mem_cons.mp q).elim hbp hb), upd_ne hbp]
    exact e))⟩)
theorem off_new {Z : List Addr} {H : Hp} {p : Addr} {o : HO} (hp : H p = none) : Same (off Z H) (off (p :: Z) (upd H p o)) := fun b u e => by
  have hb : b ∉ Z := fun q => by rw [off_in q] at e; cases e
  rw [off_ne hb] at e
  have hbp : b ≠ p := ne_of_none e hp
  rw [off_ne (fun q => (List.mem_cons.mp q).elim hbp hb), upd_ne hbp]
  exact e
/-! ### calls of built-ins -/
theorem de_callB {id : String} {x : Str} {r : List V → Hp → VK → Prop} (hc : CallR X (.builtin id) r) (hg : Gl X x) (hm : X.mg x = none) (hv : bootBuiltins x = some (.builtin id)) (ha : DA X ρ (e :: es) ds)
    (h : ∀ Z H vs Q, DRs X.K (off Z H) vs ds → Al Z H → Yld X.K Z H d Q → r vs H Q)
    (hn : x ≠ "__name__" := by decide) (hdb : (x == ("__debug__" : Str)) = false := by decide) (he : starEach (e :: es) X.env = (false, eval e X.env) :: starEach es X.env := by rfl)
    (hpl : (backTo pos (starEach es X.env)).any (·.1) = false := by rfl) :
    DE X ρ (.Call (.Name x p) (e :: es) [] pos) d := fun B O σ H Q A k =>
  (pe_callB hc hg hm hv pa_sa hn hdb he hpl).se (ha B O σ H _ A fun vs H1 s1 r1 => h _ _ _ _ r1 (A.all.mono s1) (k.grow s1))
theorem de_callTy {T : String} {x : Str} {r : List V → Hp → VK → Prop} (hc : CallR X (.type T) r) (hg : Gl X x) (hm : X.mg x = none) (hv : bootBuiltins x = some (.type T)) (ha : DA X ρ (e :: es) ds)
    (h : ∀ Z H vs Q, DRs X.K (off Z H) vs ds → Al Z H → Yld X.K Z H d Q → r vs H Q)
    (hn : x ≠ "__name__" := by decide) (hdb : (x == ("__debug__" : Str)) = false := by decide) (he : starEach (e :: es) X.env = (false, eval e X.env) :: starEach es X.env := by rfl)
    (hpl : (backTo pos (starEach es X.env)).any (·.1) = false := by rfl) :
    DE X ρ (.Call (.Name x p) (e :: es) [] pos) d := fun B O σ H Q A k =>
  (pe_callTy hc hg hm hv pa_sa hn hdb he hpl).se (ha B O σ H _ A fun vs H1 s1 r1 => h _ _ _ _ r1 (A.all.mono s1) (k.grow s1))
theorem df_callTy {T : String} {x : Str} {r : List V → Hp → VK → Prop} (hc : CallR X (.type T) r) (hg : Gl X x) (hm : X.mg x = none) (hv : bootBuiltins x = some (.type T)) (ha : DA X ρ (e :: es) ds)
    (h : ∀ Z H vs Q, DRs X.K (off Z H) vs ds → Al Z H → New X.K Z H m Q → r vs H Q)
    (hn : x ≠ "__name__" := by decide) (hdb : (x == ("__debug__" : Str)) = false := by decide) (he : starEach (e :: es) X.env = (false, eval e X.env) :: starEach es X.env := by rfl)
    (hpl : (backTo pos (starEach es X.env)).any (·.1) = false := by rfl) :
    DF X ρ (.Call (.Name x p) (e :: es) [] pos) m := fun B O σ H Q A k =>
  (pe_callTy hc hg hm hv pa_sa hn hdb he hpl).se (ha B O σ H _ A fun vs H1 s1 r1 => h _ _ _ _ r1 (A.all.mono s1) (k.grow s1))
end
end DL
set_option Elab.async false
set_option linter.all false
set_option maxRecDepth 100000
set_option maxHeartbeats 1000000
/-! DL3: sequences, texts, equality, by data. -/
namespace DL
open PySem PySem.Spec PyProof.Rows L2

/-! ### plain data: none, bools, ints, texts, lists and tuples of such -/
mutual
def D.py : D → PyData
  | .non => .none
  | .bl b => .bool b
  | .int i => .int i
  | .str s => .str s
  | .lst xs => .list (D.pys xs)
  | .tup xs => .tuple (D.pys xs)
  | .ty _ => .none
  | .opq _ => .none
  | .dic _ => .none
  | .obj _ _ => .none
  | .exc _ _ => .none
def D.pys : List D → List PyData
  | [] => []
  | d :: ds => D.py d :: D.pys ds
end
mutual
def D.ok : D → Bool
  | .non => true
  | .bl _ => true
  | .int _ => true
  | .str _ => true
  | .lst xs => D.oks xs
  | .tup xs => D.oks xs
  | .ty _ => false
  | .opq _ => false
  | .dic _ => false
  | .obj _ _ => false
  | .exc _ _ => false
def D.oks : List D → Bool
  | [] => true
  | d :: ds => D.ok d && D.oks ds
end
mutual
theorem D.py_plain : ∀ d : D, d.ok = true → d.py.plain = true
  | .non, _ => rfl
  | .bl _, _ => rfl
  | .int _, _ => rfl
  | .str _, _ => rfl
  | .lst xs, h => by simp only [D.py, PyData.plain]; exact D.pys_plain xs (by simpa [D.ok] using h)
  | .tup xs, h => by simp only [D.py, PyData.plain]; exact D.pys_plain xs (by simpa [D.ok] using h)
  | .ty _, h => by simp [D.ok] at h
  | .opq _, h => by simp [D.ok] at h
  | .dic _, h => by simp [D.ok] at h
  | .obj _ _, h => by simp [D.ok] at h
  | .exc _ _, h => by simp [D.ok] at h
theorem D.pys_plain : ∀ ds : List D, D.oks ds = true → PyData.plainAll (D.pys ds) = true
  | [], _ => rfl
  | d :: ds, h => by
    have h' : d.ok = true ∧ D.oks ds = true := by simpa [D.oks] using h
    simp only [D.pys, PyData.plainAll, D.py_plain d h'.1, D.pys_plain ds h'.2, Bool.and_self]
end
section
variable {K : PySem.W.Frag} {G : Hp}
mutual
theorem DR.dp : ∀ (d : D) (v : V), d.ok = true → DR K G v d → Dp K G v d.py
  | .non, _, _, h => by cases h; exact .non
  | .bl _, _, _, h => by cases h; exact .bl _
  | .int _, _, _, h => by cases h; exact .int _
  | .str _, _, _, h => by cases h; exact .str _
  | .lst xs, _, o, h => by cases h with | lst h r => exact .lst h (DRs.dp xs _ (by simpa [D.ok] using o) r)
  | .tup xs, _, o, h => by cases h with | tup h r => exact .tup h (DRs.dp xs _ (by simpa [D.ok] using o) r)
  | .ty _, _, h, _ => by simp [D.ok] at h
  | .opq _, _, h, _ => by simp [D.ok] at h
  | .dic _, _, h, _ => by simp [D.ok] at h
  | .obj _ _, _, h, _ => by simp [D.ok] at h
  | .exc _ _, _, h, _ => by simp [D.ok] at h
theorem DRs.dp : ∀ (ds : List D) (vs : List V), D.oks ds = true → DRs K G vs ds → DpAll K G vs (D.pys ds)
  | [], _, _, h => by cases h; exact .nil
  | d :: ds, _, o, h => by
    have o' : d.ok = true ∧ D.oks ds = true := by simpa [D.oks] using o
    cases h with | cons h r => exact .cons (DR.dp d _ o'.1 h) (DRs.dp ds _ o'.2 r)
end
end

/-- values of a type as data -/
class DD (α : Type) [DecidableEq α] [PySem.W.Datum α] where
  d : α → D
  py : ∀ a, (d a).py = PySem.W.Datum.toD a
  ok : ∀ a, (d a).ok = true
instance : DD Int := ⟨.int, fun _ => rfl, fun _ => rfl⟩
instance : DD Bool := ⟨.bl, fun _ => rfl, fun _ => rfl⟩
instance : DD Str := ⟨.str, fun _ => rfl, fun _ => rfl⟩
section
variable {α β : Type} [DecidableEq α] [PySem.W.Datum α] [DD α] [DecidableEq β] [PySem.W.Datum β] [DD β]
theorem DD.pys : ∀ xs : List α, D.pys (xs.map DD.d) = xs.map PySem.W.Datum.toD
  | [] => rfl
  | x :: xs => by simp only [List.map_cons, D.pys, DD.py, DD.pys xs]
theorem DD.oks : ∀ xs : List α, D.oks (xs.map DD.d) = true
  | [] => rfl
  | x :: xs => by simp only [List.map_cons, D.oks, DD.ok, DD.oks xs, Bool.and_self]
instance : DD (List α) := ⟨fun xs => .lst (xs.map DD.d), fun xs => by simp only [D.py, DD.pys]; rfl, fun xs => by simp only [D.ok, DD.oks]⟩
instance : DD (α × β) := ⟨fun p => .tup [DD.d p.1, DD.d p.2], fun p => by simp only [D.py, D.pys, DD.py]; rfl, fun p => by simp only [D.ok, D.oks, DD.ok, Bool.and_self]⟩
end

section
variable {X : Cx} {ρ : List Sl} {e a b c o i : Expr} {es rest : List Expr} {d da db : D} {ds xs ys : List D} {m : MO} {pos p apos : Pos}
/-! ### ==, !=, in, not in -/
theorem op_eqP : OpR X (compareOp .Eq) (fun x y H Q => ∃ d e, Dp X.K H x d ∧ Dp X.K H y e ∧ d.plain = true ∧ e.plain = true ∧ X.A.units + min d.depth e.depth < cLine ∧ Q (.bl (PyData.eqv d e)) H) := by
  intro pins s σ H x y v u Q I rx ry h
  obtain ⟨d, e, hd, he, sd, se, hu, q⟩ := h
  obtain ⟨as, r1⟩ := Dp.reads I d x v hd rx
  obtain ⟨bs, r2⟩ := Dp.reads I e y u he ry
  exact PySem.SeqAt.eq_plain r1 r2 sd se hu ⟨.bl _, H, I, rfl, q⟩
theorem op_neP : OpR X (compareOp .NotEq) (fun x y H Q => ∃ d e, Dp X.K H x d ∧ Dp X.K H y e ∧ d.plain = true ∧ e.plain = true ∧ X.A.units + min d.depth e.depth < cLine ∧ Q (.bl (!PyData.eqv d e)) H) := by
  intro pins s σ H x y v u Q I rx ry h
  obtain ⟨d, e, hd, he, sd, se, hu, q⟩ := h
  obtain ⟨as, r1⟩ := Dp.reads I d x v hd rx
  obtain ⟨bs, r2⟩ := Dp.reads I e y u he ry
  exact PySem.SeqAt.ne_plain r1 r2 sd se hu ⟨.bl _, H, I, rfl, q⟩
theorem op_inP : OpR X (compareOp .In) (fun x y H Q => ∃ d es, Dp X.K H x d ∧ Dp X.K H y (.list es) ∧ d.plain = true ∧ PyData.plainAll es = true ∧ X.A.units + 1 + min (PyData.depthAll es) d.depth < cLine ∧ Q (.bl (es.any fun z => PyData.eqv z d)) H) := by
  intro pins s σ H x y v u Q I rx ry h
  obtain ⟨d, e, hd, he, sd, se, hu, q⟩ := h
  obtain ⟨as, r1⟩ := Dp.reads I d x v hd rx
  obtain ⟨bs, r2⟩ := Dp.reads I _ y u he ry
  exact PySem.SeqAt.in_list_data r2 r1 se sd hu ⟨.bl _, H, I, rfl, q⟩
theorem op_notInP : OpR X (compareOp .NotIn) (fun x y H Q => ∃ d es, Dp X.K H x d ∧ Dp X.K H y (.list es) ∧ d.plain = true ∧ PyData.plainAll es = true ∧ X.A.units + 1 + min (PyData.depthAll es) d.depth < cLine ∧ Q (.bl (!es.any fun z => PyData.eqv z d)) H) := by
  intro pins s σ H x y v u Q I rx ry h
  obtain ⟨d, e, hd, he, sd, se, hu, q⟩ := h
  obtain ⟨as, r1⟩ := Dp.reads I d x v hd rx
  obtain ⟨bs, r2⟩ := Dp.reads I _ y u he ry
  exact PySem.SeqAt.notIn_list_data r2 r1 se sd hu ⟨.bl _, H, I, rfl, q⟩
theorem dr_full {K : PySem.W.Frag} {Z : List Addr} {H : Hp} {v : V} (r : DR K (off Z H) v d) : DR K H v d := r.mono off_le
theorem c_eqP (h1 : da.ok = true) (h2 : db.ok = true) (hu : X.A.units + min da.py.depth db.py.depth < cLine) : CmpD X .Eq da db (PyData.eqv da.py db.py) := ⟨_, op_eqP, fun Z H x y Q r1 r2 k =>
  ⟨_, _, DR.dp _ _ h1 (dr_full r1), DR.dp _ _ h2 (dr_full r2), D.py_plain _ h1, D.py_plain _ h2, hu, k _ _ (Same.refl _) (.bl _)⟩⟩
theorem c_neP (h1 : da.ok = true) (h2 : db.ok = true) (hu : X.A.units + min da.py.depth db.py.depth < cLine) : CmpD X .NotEq da db (!PyData.eqv da.py db.py) := ⟨_, op_neP, fun Z H x y Q r1 r2 k =>
  ⟨_, _, DR.dp _ _ h1 (dr_full r1), DR.dp _ _ h2 (dr_full r2), D.py_plain _ h1, D.py_plain _ h2, hu, k _ _ (Same.refl _) (.bl _)⟩⟩
theorem c_inP (h1 : d.ok = true) (h2 : D.oks ds = true) (hu : X.A.units + 1 + min (PyData.depthAll (D.pys ds)) d.py.depth < cLine) : CmpD X .In d (.lst ds) ((D.pys ds).any fun z => PyData.eqv z d.py) := ⟨_, op_inP, fun Z H x y Q r1 r2 k =>
  ⟨_, _, DR.dp _ _ h1 (dr_full r1), DR.dp (.lst ds) _ (by simpa [D.ok] using h2) (dr_full r2), D.py_plain _ h1, D.pys_plain _ h2, hu, k _ _ (Same.refl _) (.bl _)⟩⟩
theorem c_notInP (h1 : d.ok = true) (h2 : D.oks ds = true) (hu : X.A.units + 1 + min (PyData.depthAll (D.pys ds)) d.py.depth < cLine) : CmpD X .NotIn d (.lst ds) (!(D.pys ds).any fun z => PyData.eqv z d.py) := ⟨_, op_notInP, fun Z H x y Q r1 r2 k =>
  ⟨_, _, DR.dp _ _ h1 (dr_full r1), DR.dp (.lst ds) _ (by simpa [D.ok] using h2) (dr_full r2), D.py_plain _ h1, D.pys_plain _ h2, hu, k _ _ (Same.refl _) (.bl _)⟩⟩
section
variable {α : Type} [DecidableEq α] [PySem.W.Datum α] [DD α]
theorem dd_depth (x : α) : (DD.d x).py.depth ≤ PySem.W.Datum.depth α := by rw [DD.py]; exact PySem.W.Datum.depth_le x
/-- typed -/
theorem c_eqT {x y : α} (hu : X.A.units + PySem.W.Datum.depth α < cLine) : CmpD X .Eq (DD.d x) (DD.d y) (decide (x = y)) := by
  have h := c_eqP (X := X) (DD.ok x) (DD.ok y) (by have := dd_depth x; have := Nat.min_le_left (DD.d x).py.depth (DD.d y).py.depth; omega)
  rw [DD.py, DD.py, PySem.W.Datum.eqv] at h
  exact h
theorem c_neT {x y : α} (hu : X.A.units + PySem.W.Datum.depth α < cLine) : CmpD X .NotEq (DD.d x) (DD.d y) (!decide (x = y)) := by
  have h := c_neP (X := X) (DD.ok x) (DD.ok y) (by have := dd_depth x; have := Nat.min_le_left (DD.d x).py.depth (DD.d y).py.depth; omega)
  rw [DD.py, DD.py, PySem.W.Datum.eqv] at h
  exact h
theorem c_inT {x : α} {xs : List α} (hu : X.A.units + 1 + PySem.W.Datum.depth α < cLine) : CmpD X .In (DD.d x) (.lst (xs.map DD.d)) (decide (x ∈ xs)) := by
  have h := c_inP (X := X) (DD.ok x) (DD.oks xs) (by have := dd_depth x; have := Nat.min_le_right (PyData.depthAll (D.pys (xs.map DD.d))) (DD.d x).py.depth; omega)
  rw [DD.py, DD.pys, PySem.W.any_datum] at h
  exact h
theorem c_notInT {x : α} {xs : List α} (hu : X.A.units + 1 + PySem.W.Datum.depth α < cLine) : CmpD X .NotIn (DD.d x) (.lst (xs.map DD.d)) (!decide (x ∈ xs)) := by
  have h := c_notInP (X := X) (DD.ok x) (DD.oks xs) (by have := dd_depth x; have := Nat.min_le_right (PyData.depthAll (D.pys (xs.map DD.d))) (DD.d x).py.depth; omega)
  rw [DD.py, DD.pys, PySem.W.any_datum] at h
  exact h
end

/-! ### length, items -/
theorem de_len (hm : X.mg "len" = none) (h : DE X ρ e d) {n : Nat} (hd : (d = .lst xs ∧ n = xs.length) ∨ (d = .tup xs ∧ n = xs.length)) (hg : Gl X "len" := by rfl)
    (he : starEach (e :: []) X.env = (false, eval e X.env) :: starEach [] X.env := by rfl) : DE X ρ (.Call (.Name "len" p) [e] [] pos) (.int n) :=
  de_callB call_len hg hm PySem.boot_len (da_cons h da_nil he) (fun Z H vs Q r _ k => by
    obtain ⟨v, rfl, r1⟩ := r.inv1
    rcases hd with ⟨rfl, rfl⟩ | ⟨rfl, rfl⟩
    · cases r1 with
      | lst hs ha => exact ⟨_, _, rfl, .inl ⟨_, hs.imp (rd_mono off_le) id, rfl⟩, by rw [ha.length]; exact k _ _ (Same.refl _) (.int _)⟩
    · cases r1 with
      | tup hs ha => exact ⟨_, _, rfl, .inr ⟨_, hs.imp (rd_mono off_le) id, rfl⟩, by rw [ha.length]; exact k _ _ (Same.refl _) (.int _)⟩) (he := he)
theorem de_lenL (hm : X.mg "len" = none) (h : DE X ρ e (.lst xs)) (hg : Gl X "len" := by rfl)
    (he : starEach (e :: []) X.env = (false, eval e X.env) :: starEach [] X.env := by rfl) : DE X ρ (.Call (.Name "len" p) [e] [] pos) (.int (xs.length : Int)) := de_len hm h (.inl ⟨rfl, rfl⟩) hg he
theorem de_lenT (hm : X.mg "len" = none) (h : DE X ρ e (.tup xs)) (hg : Gl X "len" := by rfl)
    (he : starEach (e :: []) X.env = (false, eval e X.env) :: starEach [] X.env := by rfl) : DE X ρ (.Call (.Name "len" p) [e] [] pos) (.int (xs.length : Int)) := de_len hm h (.inr ⟨rfl, rfl⟩) hg he
theorem de_lenS (hm : X.mg "len" = none) {z : Str} (h : DE X ρ e (.str z)) (hz : z.length ≤ sizeLine) (hg : Gl X "len" := by rfl)
    (he : starEach (e :: []) X.env = (false, eval e X.env) :: starEach [] X.env := by rfl) : DE X ρ (.Call (.Name "len" p) [e] [] pos) (.int (z.length : Int)) :=
  de_callB call_len hg hm PySem.boot_len (da_cons h da_nil he) (fun Z H vs Q r _ k => by
    obtain ⟨v, rfl, r1⟩ := r.inv1
    cases r1
    exact ⟨_, _, rfl, ⟨hz, rfl⟩, k _ _ (Same.refl _) (.int _)⟩) (he := he)
theorem atI_drs {K : PySem.W.Frag} {G : Hp} {vs : List V} {n : Int} (r : DRs K G vs ds) (h : atI ds n = some d) : ∃ v, atI vs n = some v ∧ DR K G v d := by
  unfold atI at h ⊢
  rw [← r.length] at h
  cases q : ixN vs.length n with
  | none => rw [q] at h; cases h
  | some j =>
    rw [q] at h
    exact r.get j h
theorem de_ixL {n : Int} (h : DE X ρ a (.lst ds)) (h' : DE X ρ b (.int n)) (q : atI ds n = some d) (hp : PlainIx b := by exact (fun _ _ => rfl)) : DE X ρ (.Subscript a b pos) d := fun B O σ H Q A k =>
  (pe_ix ix_list pe_se pe_se hp).se (h B O σ H _ A fun x H1 s1 r1 => h' B O σ H1 _ (A.grow s1) fun y H2 s2 r2 => by
    cases r1 with
    | lst hs ha =>
      cases r2
      obtain ⟨v, e, r⟩ := atI_drs ha q
      exact ⟨_, _, _, _, rfl, rfl, (s2.seq (hs.imp (rd_mono off_le) id)), e, k _ _ (s1.trans s2) (r.mono (off_same s2))⟩)
theorem de_ixT {n : Int} (h : DE X ρ a (.tup ds)) (h' : DE X ρ b (.int n)) (q : atI ds n = some d := by rfl) (hp : PlainIx b := by exact (fun _ _ => rfl)) : DE X ρ (.Subscript a b pos) d := fun B O σ H Q A k =>
  (pe_ix ix_tup pe_se pe_se hp).se (h B O σ H _ A fun x H1 s1 r1 => h' B O σ H1 _ (A.grow s1) fun y H2 s2 r2 => by
    cases r1 with
    | tup hs ha =>
      cases r2
      obtain ⟨v, e, r⟩ := atI_drs ha q
      exact ⟨_, _, _, _, rfl, rfl, sqt_mono s2 (hs.imp (rd_mono off_le) id), e, k _ _ (s1.trans s2) (r.mono (off_same s2))⟩)
theorem de_ixS {n : Int} {z : Str} {c : Nat} (h : DE X ρ a (.str z)) (h' : DE X ρ b (.int n)) (hz : z.length ≤ sizeLine) (q : atI z.cps.toList n = some c) (hp : PlainIx b := by exact (fun _ _ => rfl)) : DE X ρ (.Subscript a b pos) (.str ⟨#[c]⟩) := fun B O σ H Q A k =>
  (pe_ix ix_str pe_se pe_se hp).se (h B O σ H _ A fun x H1 s1 r1 => h' B O σ H1 _ (A.grow s1) fun y H2 s2 r2 => by
    cases r1; cases r2
    exact ⟨_, _, _, rfl, rfl, hz, q, k _ _ (s1.trans s2) (.str _)⟩)
theorem atI_in {α : Type} {xs : List α} {n : Int} {x : α} (h0 : 0 ≤ n) (h : xs[n.toNat]? = some x) : atI xs n = some x := by
  have e : n = ((n.toNat : Nat) : Int) := by omega
  rw [e]; exact atI_nat h

/-! ### new lists: a slice, xs + ys, xs * n, list(xs) -/
def cutD (xs : List D) (lo hi : Option Int) : List D := (xs.drop (HT.sIx xs.length 0 lo)).take (HT.sIx xs.length xs.length hi - HT.sIx xs.length 0 lo)
theorem cut_drs {K : PySem.W.Frag} {G : Hp} {vs : List V} {lo hi : Option Int} (r : DRs K G vs ds) : DRs K G (cutV vs lo hi) (cutD ds lo hi) := by
  unfold cutV cutD
  rw [r.length]
  exact (r.drop _).take _
/-- a part of a slice -/
def DO (X : Cx) (ρ : List Sl) (e : Option Expr) (o : Option Int) : Prop := match e, o with
  | none, none => True
  | some e, some i => DE X ρ e (.int i)
  | _, _ => False
theorem do_none : DO X ρ none none := trivial
theorem do_some {i : Int} (h : DE X ρ e (.int i)) : DO X ρ (some e) (some i) := h
def SO (X : Cx) (e : Option Expr) : TO := fun σ H Q => Hd (∀ (pins : List (Addr × Obj)) (s : Shared), Inv X pins σ H s → wpAny (model X.prog X.w) X.A (evalPart e X.env) (fun u s' => ∃ o H', Inv X pins σ H' s' ∧ IsPart u o ∧ Q o H') X.xe s)
theorem po_so {e : Option Expr} : PO X e (SO X e) := ⟨fun pins s σ H Q I h => h.run pins s I⟩
theorem DO.so {e : Option Expr} {o : Option Int} (h : DO X ρ e o) {B O : List Addr} {σ : L2.St} {H : Hp} {Q : Option Int → Hp → Prop} (A : At X.K B O σ H ρ) (k : ∀ H', Same H H' → Q o H') : SO X e σ H Q := by
  cases e with
  | none =>
    cases o with
    | none => exact ⟨fun pins s I => (po_none (X := X)).run pins s σ H Q I (k _ (Same.refl _))⟩
    | some i => exact h.elim
  | some e =>
    cases o with
    | none => exact h.elim
    | some i =>
      refine ⟨fun pins s I => (po_some (X := X) pe_se).run pins s σ H Q I ?_⟩
      exact DE.eq (d := .int i) h rfl B O σ H _ A fun v H' s' r => by cases r; exact ⟨_, rfl, k _ s'⟩
theorem df_slL {lo hi : Option Expr} {u w : Option Int} {p2 : Pos} (h : DE X ρ e (.lst ds)) (h1 : DO X ρ lo u) (h2 : DO X ρ hi w) : DF X ρ (.Subscript e (.Slice lo hi none p2) pos) (.lst (cutD ds u w)) := fun B O σ H Q A k =>
  (pe_slice sl_list pe_se po_so po_so).se (h B O σ H _ A fun x H1 s1 r1 => h1.so (A.grow s1) fun H2 s2 => h2.so (A.grow (s1.trans s2)) fun H3 s3 => by
    cases r1 with
    | lst hs ha => exact ⟨_, _, rfl, (s2.trans s3).seq (hs.imp (rd_mono off_le) id), fun p hp => k p _ _ (s1.free (s2.free (s3.free hp))) (s1.trans (s2.trans (s3.trans (same_upd hp)))) upd_same (.lst ((cut_drs ha).mono ((off_same (s2.trans s3)).trans (off_new hp))))⟩)
theorem de_slS {lo hi : Option Expr} {u w : Option Int} {p2 : Pos} {z : Str} (h : DE X ρ e (.str z)) (h1 : DO X ρ lo u) (h2 : DO X ρ hi w) (hz : z.length ≤ sizeLine) : DE X ρ (.Subscript e (.Slice lo hi none p2) pos) (.str (cutS z u w)) := fun B O σ H Q A k =>
  (pe_slice sl_str pe_se po_so po_so).se (h B O σ H _ A fun x H1 s1 r1 => h1.so (A.grow s1) fun H2 s2 => h2.so (A.grow (s1.trans s2)) fun H3 s3 => by
    cases r1
    exact ⟨_, rfl, hz, k _ _ (s1.trans (s2.trans s3)) (.str _)⟩)
theorem op_catL : OpR X (binaryOp .Add) (fun x y H Q => ∃ l b xs zs, x = .ref l ∧ y = .ref b ∧ SqL X.K H l xs ∧ SqL X.K H b zs ∧ xs.length + zs.length ≤ sizeLine ∧ ∀ p, H p = none → Q (.ref p) (upd H p (.lst (xs ++ zs)))) := by
  intro pins s σ H x y v u Q I rx ry h
  obtain ⟨l, b, xs, zs, rfl, rfl, hH, hB, hz, q⟩ := h
  cases rx
  cases ry
  obtain ⟨its, r, pl, z⟩ := I.list hH
  obtain ⟨its2, r2, pl2, z2⟩ := I.list hB
  have hl := r.length
  have hl2 := r2.length
  obtain ⟨⟨cls, dd, data, sl⟩, ho, hc, n, hd⟩ := id pl.isList
  obtain ⟨⟨cls2, dd2, data2, sl2⟩, ho2, hc2, n2, hd2⟩ := id pl2.isList
  simp only at hc hd hc2 hd2
  subst hc hd hc2 hd2
  have ea : its.toArray ++ its2.toArray = (its ++ its2).toArray := by simp
  refine concat_meets ⟨_, ho, rfl⟩ ⟨_, ho2, rfl⟩ noFill_list_add seq_list_add PySem.F.slot_list_add PySem.F.entry_list_add (PySem.F.args_list_add_2 _ _) (list_addW l b its.toArray its2.toArray n n2 dd dd2 sl sl2 (by rw [List.size_toArray, List.size_toArray]; omega)) ⟨ho, ho2, ?_⟩
  rw [ea]
  exact ⟨.ref _, _, I.lnew (t' := s.toks) (r.append r2) (by rw [List.length_append]; omega), rfl, q _ I.fresh⟩
theorem df_cat (h : DE X ρ a (.lst xs)) (h' : DE X ρ b (.lst ys)) (hl : xs.length + ys.length ≤ sizeLine) : DF X ρ (.BinOp a .Add b pos) (.lst (xs ++ ys)) :=
  df_op op_catL h h' fun Z H x y Q r1 r2 A k => by
    cases r1 with
    | lst h1 a1 =>
      cases r2 with
      | lst h2 a2 => exact ⟨_, _, _, _, rfl, rfl, h1.imp (rd_mono off_le) id, h2.imp (rd_mono off_le) id, by rw [a1.length, a2.length]; exact hl, fun p hp => k p _ _ hp (same_upd hp) upd_same (.lst ((a1.append a2).mono (off_new hp)))⟩
theorem drs_rep {K : PySem.W.Frag} {G : Hp} {vs : List V} (r : DRs K G vs ds) : ∀ n, DRs K G (List.replicate n vs).flatten (List.replicate n ds).flatten
  | 0 => .nil
  | n + 1 => by rw [List.replicate_succ, List.replicate_succ, List.flatten_cons, List.flatten_cons]; exact r.append (drs_rep r n)
theorem df_rep {n : Int} (h : DF X ρ a (.lst xs)) (h' : DE X ρ b (.int n)) (h1 : -(2 ^ 63) ≤ n) (h2 : n < 2 ^ 63) (hl : xs.length * n.toNat ≤ sizeLine) : DF X ρ (.BinOp a .Mult b pos) (.lst (List.replicate n.toNat xs).flatten) := fun B O σ H Q A k =>
  (pe_op op_rep pe_se pe_se).se (h B O σ H _ A fun l o H1 hn s1 e1 r1 => h' B O σ H1 _ (A.grow s1) fun y H2 s2 r2 => by
    cases r1 with
    | lst ha =>
      cases r2
      refine ⟨_, _, _, rfl, rfl, s2 _ _ e1, h1, h2, by rw [ha.length]; exact hl, fun p hp => k p _ _ (s1.free (s2.free hp)) (s1.trans (s2.trans (same_upd hp))) upd_same (.lst (drs_rep (ha.mono ?_) _))⟩
      exact ((off_sub fun b hb => List.mem_cons_of_mem _ hb).trans (off_same s2)).trans (off_new hp))
theorem df_listOf (hm : X.mg "list" = none) (h : DE X ρ e d) (hd : d = .lst xs ∨ d = .tup xs) (hg : Gl X "list" := by rfl)
    (he : starEach (e :: []) X.env = (false, eval e X.env) :: starEach [] X.env := by rfl) : DF X ρ (.Call (.Name "list" p) [e] [] pos) (.lst xs) :=
  df_callTy call_list_of hg hm (by decide +kernel) (da_cons h da_nil he) (fun Z H vs Q r A k => by
    obtain ⟨v, rfl, r1⟩ := r.inv1
    rcases hd with rfl | rfl
    · cases r1 with
      | lst hs ha => exact ⟨_, _, rfl, .inl (hs.imp (rd_mono off_le) id), fun p hp => k p _ _ hp (same_upd hp) upd_same (.lst (ha.mono (off_new hp)))⟩
    · cases r1 with
      | tup hs ha => exact ⟨_, _, rfl, .inr (hs.imp (rd_mono off_le) id), fun p hp => k p _ _ hp (same_upd hp) upd_same (.lst (ha.mono (off_new hp)))⟩) (he := he)
theorem df_listOfL (hm : X.mg "list" = none) (h : DE X ρ e (.lst xs)) (hg : Gl X "list" := by rfl) (he : starEach (e :: []) X.env = (false, eval e X.env) :: starEach [] X.env := by rfl) : DF X ρ (.Call (.Name "list" p) [e] [] pos) (.lst xs) := df_listOf hm h (.inl rfl) hg he

/-! ### built-ins over numbers -/
theorem de_abs {n : Int} (hm : X.mg "abs" = none) (h : DE X ρ e (.int n)) (hg : Gl X "abs" := by rfl) (he : starEach (e :: []) X.env = (false, eval e X.env) :: starEach [] X.env := by rfl) :
    DE X ρ (.Call (.Name "abs" p) [e] [] pos) (.int (if n < 0 then -n else n)) :=
  de_callB call_abs hg hm (by decide +kernel) (da_cons h da_nil he) (fun Z H vs Q r _ k => by
    obtain ⟨v, rfl, r1⟩ := r.inv1
    cases r1
    exact ⟨_, rfl, k _ _ (Same.refl _) (.int _)⟩) (he := he)
theorem de_int1 {n : Int} (hm : X.mg "int" = none) (h : DE X ρ e (.int n)) (hg : Gl X "int" := by rfl) (he : starEach (e :: []) X.env = (false, eval e X.env) :: starEach [] X.env := by rfl) :
    DE X ρ (.Call (.Name "int" p) [e] [] pos) (.int n) :=
  de_callTy call_int1 hg hm (by decide +kernel) (da_cons h da_nil he) (fun Z H vs Q r _ k => by
    obtain ⟨v, rfl, r1⟩ := r.inv1
    cases r1
    exact .inl ⟨_, rfl, k _ _ (Same.refl _) (.int _)⟩) (he := he)
theorem de_min2 {m n : Int} (hc : X.calm = true) (hm : X.mg "min" = none) (h : DE X ρ a (.int m)) (h' : DE X ρ b (.int n)) (hg : Gl X "min" := by rfl) (he : starEach (a :: [b]) X.env = (false, eval a X.env) :: starEach [b] X.env := by rfl)
    (he2 : starEach (b :: []) X.env = (false, eval b X.env) :: starEach [] X.env := by rfl) (hpl : (backTo pos (starEach [b] X.env)).any (·.1) = false := by rfl) :
    DE X ρ (.Call (.Name "min" p) [a, b] [] pos) (.int (if n < m then n else m)) :=
  de_callB (call_min2 hc) hg hm (by decide +kernel) (da_cons h (da_cons h' da_nil he2) he) (fun Z H vs Q r _ k => by
    obtain ⟨v, w, rfl, r1, r2⟩ := r.inv2
    cases r1; cases r2
    exact ⟨_, _, rfl, k _ _ (Same.refl _) (.int _)⟩) (he := he) (hpl := hpl)
theorem de_max2 {m n : Int} (hc : X.calm = true) (hm : X.mg "max" = none) (h : DE X ρ a (.int m)) (h' : DE X ρ b (.int n)) (hg : Gl X "max" := by rfl) (he : starEach (a :: [b]) X.env = (false, eval a X.env) :: starEach [b] X.env := by rfl)
    (he2 : starEach (b :: []) X.env = (false, eval b X.env) :: starEach [] X.env := by rfl) (hpl : (backTo pos (starEach [b] X.env)).any (·.1) = false := by rfl) :
    DE X ρ (.Call (.Name "max" p) [a, b] [] pos) (.int (if n > m then n else m)) :=
  de_callB (call_max2 hc) hg hm (by decide +kernel) (da_cons h (da_cons h' da_nil he2) he) (fun Z H vs Q r _ k => by
    obtain ⟨v, w, rfl, r1, r2⟩ := r.inv2
    cases r1; cases r2
    exact ⟨_, _, rfl, k _ _ (Same.refl _) (.int _)⟩) (he := he) (hpl := hpl)
theorem de_sum {ns : List Int} (hc : X.calm = true) (hm : X.mg "sum" = none) (h : DE X ρ e (.lst (ns.map .int))) (hg : Gl X "sum" := by rfl) (he : starEach (e :: []) X.env = (false, eval e X.env) :: starEach [] X.env := by rfl) :
    DE X ρ (.Call (.Name "sum" p) [e] [] pos) (.int ns.sum) :=
  de_callB (cr_sum hc) hg hm (by decide +kernel) (da_cons h da_nil he) (fun Z H vs Q r _ k => by
    obtain ⟨v, rfl, r1⟩ := r.inv1
    cases r1 with
    | lst hs ha =>
      obtain rfl := ha.ints
      exact ⟨_, _, rfl, hs.imp (rd_mono off_le) id, k _ _ (Same.refl _) (.int _)⟩) (he := he)
/-! ### texts -/
theorem de_join {z : Str} {ys : List Str} (h : DE X ρ o (.str z)) (h' : DE X ρ e (.lst (ys.map .str))) (hz : (ys.map (·.length)).sum + ys.length * z.length ≤ 16777216)
    (hs : starEach [e] X.env = [(false, eval e X.env)] := by rfl) (hb : attributeBase o "join" X.env (eval o X.env) = eval o X.env := by rfl) (hl : (apos.endLine == pos.line) = true := by rfl) :
    DE X ρ (.Call (.Attribute o "join" apos) [e] [] pos) (.str (Txt.join z ys)) := fun B O σ H Q A k =>
  (pe_join pe_se pe_se hs hb hl).se (h B O σ H _ A fun x H1 s1 r1 => by
    cases r1
    refine ⟨⟨_, rfl⟩, h' B O σ H1 _ (A.grow s1) fun y H2 s2 r2 => ?_⟩
    cases r2 with
    | lst hs ha =>
      obtain rfl := ha.strs
      exact ⟨_, _, _, rfl, rfl, .inl (hs.imp (rd_mono off_le) id), hz, k _ _ (s1.trans s2) (.str _)⟩)
end
end DL
set_option Elab.async false
set_option linter.all false
set_option maxRecDepth 100000
set_option maxHeartbeats 1000000
/-! DL4: targets, things walked, statements, comprehensions, defs and calls, by data. -/
namespace DL
open PySem PySem.Spec PyProof.Rows L2

def SS (X : Cx) (st : Stmt) : TS := fun D σ H => Hd (∀ (pins : List (Addr × Obj)) (s : Shared), Inv X pins σ H s → wpAny (model X.prog X.w) X.A (exec st X.env) (SP X pins D) X.xe s)
def SSs (X : Cx) (st : List Stmt) : TS := fun D σ H => Hd (∀ (pins : List (Addr × Obj)) (s : Shared), Inv X pins σ H s → wpAny (model X.prog X.w) X.A (execs st X.env) (SP X pins D) X.xe s)
def SI (X : Cx) (tg iter : Expr) : TI := fun σ H R => Hd (∀ (pins : List (Addr × Obj)) (s : Shared), Inv X pins σ H s →
  wpAny (model X.prog X.w) X.A (eval iter X.env) (fun v s1 => wpAny (model X.prog X.w) X.A (pyIter v) (PIE X pins σ tg R) X.xe s1) X.xe s)
def SGs (X : Cx) (ts : List Expr) : TGs := fun vs σ H Q => Hd (∀ (pins : List (Addr × Obj)) (s : Shared) (us : List Value), Inv X pins σ H s → Vals vs us →
  wpAny (model X.prog X.w) X.A (assignInOrder ((assignEach ts X.env).map (·.2)) us) (fun _ s' => ∃ σ' H', Inv X pins σ' H' s' ∧ Q σ' H') X.xe s)
def STs (X : Cx) (ifs : List Expr) : TT := fun σ H Q => Hd (∀ (pins : List (Addr × Obj)) (s : Shared), Inv X pins σ H s →
  wpAny (model X.prog X.w) X.A (forIn ifs true fun c r => if r = true then do let ok ← isTrue c X.env (eval c X.env); pure (ForInStep.yield ok) else pure (ForInStep.yield r)) (TP X pins σ Q) X.xe s)
theorem ps_ss {X : Cx} {st : Stmt} : PS X st (SS X st) := ⟨fun pins s σ H D I h => h.run pins s I⟩
theorem pss_ss {X : Cx} {st : List Stmt} : PSs X st (SSs X st) := ⟨fun pins s σ H D I h => h.run pins s I⟩
theorem pi_si {X : Cx} {tg iter : Expr} : PI X tg iter (SI X tg iter) := ⟨fun pins s σ H R I h => h.run pins s I⟩
theorem pgs_sg {X : Cx} {ts : List Expr} : PGs X ts (SGs X ts) := ⟨fun pins s σ H vs us Q I r h => h.run pins s us I r⟩
theorem pts_st {X : Cx} {ifs : List Expr} : PTs X ifs (STs X ifs) := ⟨fun pins s σ H Q I h => h.run pins s I⟩
theorem _root_.L2.PS.ss {X : Cx} {st : Stmt} {t : TS} (h : PS X st t) {D : Ends} {σ : L2.St} {H : Hp} (q : t D σ H) : SS X st D σ H := ⟨fun pins s I => h.run pins s σ H D I q⟩
theorem _root_.L2.PSs.ss {X : Cx} {st : List Stmt} {t : TS} (h : PSs X st t) {D : Ends} {σ : L2.St} {H : Hp} (q : t D σ H) : SSs X st D σ H := ⟨fun pins s I => h.run pins s σ H D I q⟩
theorem _root_.L2.PI.si {X : Cx} {tg iter : Expr} {t : TI} (h : PI X tg iter t) {σ : L2.St} {H : Hp} {R : It → Hp → Prop} (q : t σ H R) : SI X tg iter σ H R := ⟨fun pins s I => h.run pins s σ H R I q⟩
theorem _root_.L2.PGs.sg {X : Cx} {ts : List Expr} {t : TGs} (h : PGs X ts t) {vs : List V} {σ : L2.St} {H : Hp} {Q : L2.St → Hp → Prop} (q : t vs σ H Q) : SGs X ts vs σ H Q := ⟨fun pins s us I r => h.run pins s σ H vs us Q I r q⟩
theorem _root_.L2.PTs.st {X : Cx} {ifs : List Expr} {t : TT} (h : PTs X ifs t) {σ : L2.St} {H : Hp} {Q : Bool → Hp → Prop} (q : t σ H Q) : STs X ifs σ H Q := ⟨fun pins s I => h.run pins s σ H Q I q⟩

/-! ### targets -/
/-- tg takes d: from ρ to ρ'; the slots `is` alone change -/
def DG (X : Cx) (ρ : List Sl) (tg : Expr) (d : D) (is : List Nat) (ρ' : List Sl) : Prop := ∀ B O σ H v (Q : L2.St → Hp → Prop), At X.K B O σ H ρ → DR X.K (off (O ++ B) H) v d →
  (∀ σ', At X.K B O σ' H ρ' → (∀ vs : List Nat, (∀ i ∈ is, i ∈ vs) → wipe σ' vs = wipe σ vs) → Q σ' H) → SG X tg v σ H Q
def DGs (X : Cx) (ρ : List Sl) (ts : List Expr) (ds : List D) (is : List Nat) (ρ' : List Sl) : Prop := ∀ B O σ H vs (Q : L2.St → Hp → Prop), At X.K B O σ H ρ → DRs X.K (off (O ++ B) H) vs ds →
  (∀ σ', At X.K B O σ' H ρ' → (∀ vs : List Nat, (∀ i ∈ is, i ∈ vs) → wipe σ' vs = wipe σ vs) → Q σ' H) → SGs X ts vs σ H Q
theorem wipe_set {σ : L2.St} {i : Nat} {x : Option V} : ∀ {vs : List Nat}, i ∈ vs → wipe (σ.set i x) vs = wipe σ vs
  | [], h => by cases h
  | v :: vs, h => by
    unfold wipe
    by_cases hv : i ∈ vs
    · rw [wipe_set hv]
    · have e : i = v := by
        rcases List.mem_cons.mp h with h | h
        · exact h
        · exact absurd h hv
      subst e
      have aux : ∀ (ws : List Nat), i ∉ ws → wipe (σ.set i x) ws = (wipe σ ws).set i x := by
        intro ws
        induction ws with
        | nil => intro _; rfl
        | cons w ws ih =>
          intro hn
          unfold wipe
          rw [ih fun q => hn (List.mem_cons_of_mem _ q), List.set_comm]
          intro q; subst q; exact hn List.mem_cons_self
      rw [aux vs hv, List.set_set]
section
variable {X : Cx} {ρ ρ' ρ'' : List Sl} {e a b c o : Expr} {es : List Expr} {d : D} {ds items : List D} {m : MO} {pos p apos : Pos}
theorem dg_name (i : Nat) {x : Str} (hN : X.N.Nodup) (hn : ∀ m, ρ[i]? ≠ some (.own m) := by intro m h; cases h) (hi : X.N[i]? = some x := by rfl) (hl : Loc X.env.scope x := by first | exact .inl rfl | exact .inr rfl)
    (hf : X.fn x = true ∨ X.env.scope.names.lookup x = some .local := by first | exact .inl rfl | exact .inr rfl) : DG X ρ (.Name x pos) d [i] (ρ.set i (.dat d)) := fun B O σ H v Q A r k =>
  (pg_name hN hi hl hf).sg (k _ ⟨A.sl.set' r i hn, A.al, A.dj⟩ fun vs h => wipe_set (h i List.mem_cons_self))
theorem dgs_nil : DGs X ρ [] [] [] ρ := fun B O σ H vs Q A r k => by
  cases r
  exact pgs_nil.sg ⟨rfl, k _ A fun _ _ => rfl⟩
theorem dgs_cons {is js : List Nat} (h : DG X ρ e d is ρ') (h' : DGs X ρ' es ds js ρ'') (hs : (assignEach (e :: es) X.env).map (·.2) = assign e X.env :: (assignEach es X.env).map (·.2) := by rfl) : DGs X ρ (e :: es) (d :: ds) (is ++ js) ρ'' := fun B O σ H vs Q A r k => by
  cases r with
  | cons r1 r2 =>
    refine (pgs_cons pg_sg pgs_sg hs).sg ⟨_, _, rfl, h B O σ H _ _ A r1 fun σ' A' w => h' B O σ' H _ _ A' r2 fun σ'' A'' w' => k _ A'' fun ws hw => ?_⟩
    rw [w' ws fun i hi => hw i (List.mem_append_right _ hi), w ws fun i hi => hw i (List.mem_append_left _ hi)]
theorem dg_tup {k : Nat} {is : List Nat} (hc : X.calm = true) (h : DGs X ρ es ds is ρ') {n : Nat} (hl : ds.length = n := by rfl) (hn : (assignEach es X.env).length = n := by rfl) (hst : (assignEach es X.env).findIdx? (·.1) = none := by rfl) :
    DG X ρ (.Tuple es k pos) (.tup ds) is ρ' := fun B O σ H v Q A r k => by
  cases r with
  | tup hs ha => exact (pg_tup hc pgs_sg hn hst).sg ⟨_, _, rfl, hs.imp (rd_mono off_le) id, by rw [ha.length]; exact hl, h B O σ H _ _ A ha k⟩

/-! ### what is walked -/
structure JOk (K : PySem.W.Frag) (G0 : Hp) (J : It) (items : List D) : Prop where
  go : ∀ B O H, Same G0 (off (O ++ B) H) → Al (O ++ B) H → ∀ (i : Nat) d, items[i]? = some d → J.go i H ∧ ∀ x H', J.yld i H x H' → Same H H' ∧ DR K (off (O ++ B) H') x d
  stop : ∀ B O H, Same G0 (off (O ++ B) H) → ∀ i : Nat, items.length ≤ i → J.stop i H
def DI (X : Cx) (ρ : List Sl) (tg it : Expr) (items : List D) : Prop := ∀ B O σ H (R : It → Hp → Prop), At X.K B O σ H ρ → (∀ J H', Same H H' → JOk X.K (off (O ++ B) H') J items → R J H') → SI X tg it σ H R
theorem di_list {tg it : Expr} (h : DE X ρ it (.lst items)) : DI X ρ tg it items := fun B O σ H R A k =>
  (pi_list pe_se).si (h B O σ H _ A fun v H1 s1 r1 => by
    cases r1 with
    | @lst a xs _ hs ha =>
      refine ⟨_, rfl, ⟨_, hs.imp (rd_mono off_le) id⟩, k _ _ s1 ⟨fun B' O' H2 g al i d hd => ?_, fun B' O' H2 g i hi => ?_⟩⟩
      · obtain ⟨v, ev, rv⟩ := ha.get i hd
        have hs' : SqL X.K H2 a xs := (g.trans off_le).seq hs
        exact ⟨⟨_, _, hs', ev⟩, fun x H3 ⟨e, hx⟩ => by subst e; exact ⟨Same.refl _, by
          have e2 := hx _ hs'
          rw [ev] at e2; cases e2; exact rv.mono g⟩⟩
      · exact ⟨_, (g.trans off_le).seq hs, by rw [ha.length]; exact hi⟩)
theorem di_tup {tg it : Expr} (h : DE X ρ it (.tup items)) : DI X ρ tg it items := fun B O σ H R A k =>
  (pi_tup pe_se).si (h B O σ H _ A fun v H1 s1 r1 => by
    cases r1 with
    | @tup a xs _ hs ha =>
      refine ⟨_, rfl, ⟨_, hs.imp (rd_mono off_le) id⟩, k _ _ s1 ⟨fun B' O' H2 g al i d hd => ?_, fun B' O' H2 g i hi => ?_⟩⟩
      · obtain ⟨v, ev, rv⟩ := ha.get i hd
        have hs' : SqT X.K H2 a xs := sqt_mono (g.trans off_le) hs
        exact ⟨⟨_, _, hs', ev⟩, fun x H3 ⟨e, hx⟩ => by subst e; exact ⟨Same.refl _, by
          have e2 := hx _ hs'
          rw [ev] at e2; cases e2; exact rv.mono g⟩⟩
      · exact ⟨_, sqt_mono (g.trans off_le) hs, by rw [ha.length]; exact hi⟩)
/-- the ints of a range -/
def rangeD (lo : Int) (n : Nat) : List D := (List.range n).map fun (k : Nat) => D.int (lo + (k : Int))
theorem rangeD_get {lo : Int} {n i : Nat} {d : D} (h : (rangeD lo n)[i]? = some d) : i < n ∧ d = .int (lo + (i : Int)) := by
  unfold rangeD at h
  rw [List.getElem?_map] at h
  by_cases hi : i < n
  · rw [List.getElem?_range hi] at h; simp at h; exact ⟨hi, h.symm⟩
  · rw [List.getElem?_eq_none (by simp; omega)] at h; simp at h
theorem rangeD_len {lo : Int} {n : Nat} : (rangeD lo n).length = n := by simp [rangeD]
theorem jok_range {K : PySem.W.Frag} {G0 : Hp} {lo : Int} {n : Nat} : JOk K G0 (Itr lo n) (rangeD lo n) :=
  ⟨fun B O H g al i d hd => by
    obtain ⟨hi, rfl⟩ := rangeD_get hd
    exact ⟨hi, fun x H' ⟨e, hx⟩ => by subst e; subst hx; exact ⟨Same.refl _, .int _⟩⟩, fun B O H g i hi => by rw [rangeD_len] at hi; exact hi⟩
theorem di_range1 {tg : Expr} {n : Int} (hm : X.mg "range" = none) (h : DE X ρ a (.int n)) (h1 : -(2 ^ 62) ≤ n) (h2 : n < 2 ^ 62) (hg : Gl X "range" := by rfl) (hs : starEach [a] X.env = [(false, eval a X.env)] := by rfl)
    : DI X ρ tg (.Call (.Name "range" p) [a] [] pos) (rangeD 0 n.toNat) := fun B O σ H R A k =>
  (pi_range1 hg hm pa_sa hs).si (da_cons h da_nil hs B O σ H _ A fun vs H1 s1 r1 => by
    obtain ⟨v, rfl, r⟩ := r1.inv1
    cases r
    exact ⟨_, rfl, h1, h2, k _ _ s1 jok_range⟩)
theorem di_range2 {tg : Expr} {m n : Int} (hm : X.mg "range" = none) (h : DE X ρ a (.int m)) (h' : DE X ρ b (.int n)) (hb : -(2 ^ 62) ≤ m ∧ m < 2 ^ 62 ∧ -(2 ^ 62) ≤ n ∧ n < 2 ^ 62) (hg : Gl X "range" := by rfl)
    (hs : starEach [a, b] X.env = [(false, eval a X.env), (false, eval b X.env)] := by rfl) (hs2 : starEach [b] X.env = [(false, eval b X.env)] := by rfl) : DI X ρ tg (.Call (.Name "range" p) [a, b] [] pos) (rangeD m (n - m).toNat) := fun B O σ H R A k =>
  (pi_range2 hg hm pa_sa hs hs2).si (da_cons h (da_cons h' da_nil hs2) (by rw [hs, hs2]) B O σ H _ A fun vs H1 s1 r1 => by
    obtain ⟨v, w, rfl, r, r'⟩ := r1.inv2
    cases r; cases r'
    exact ⟨_, _, rfl, hb, k _ _ s1 jok_range⟩)
end

/-! ### ends -/
structure DEnds where
  nx : List Sl → Prop
  rt : D → Prop := fun _ => False
  rm : MO → Prop := fun _ => False
  bk : List Sl → Prop := fun _ => False
  ct : List Sl → Prop := fun _ => False
  ex : Addr → Option (List (Str × D)) → List Sl → Prop := fun _ _ _ => False
/-- what an exception bears beside its class -/
inductive ExcD (K : PySem.W.Frag) (G : Hp) : Option Addr → Option (List (Str × D)) → Prop
  | none : ExcD K G none none
  | some {d : Addr} {fs : List (Str × V)} {gs : List (Str × D)} : G d = some (.xd fs) → DRf K G fs gs → ExcD K G (some d) (some gs)
theorem ExcD.mono {K : PySem.W.Frag} {G G' : Hp} {od : Option Addr} {fs : Option (List (Str × D))} (s : Same G G') (h : ExcD K G od fs) : ExcD K G' od fs := by
  cases h with
  | none => exact .none
  | some e r => exact .some (s _ _ e) (r.mono s)
structure Cov (K : PySem.W.Frag) (B : List Addr) (H0 : Hp) (De : Ends) (W : WX) (D : DEnds) : Prop where
  nx : ∀ ρ O σ H, D.nx ρ → At K B O σ H ρ → Same H0 (off O H) → De.nx σ H
  rt : ∀ d v H, D.rt d → DR K (off B H) v d → Same H0 H → De.rt v H
  rm : ∀ m p o H, D.rm m → H0 p = none → H p = some o → MR K (off (p :: B) H) p o m → Same H0 H → De.rt (.ref p) H
  bk : ∀ ρ O σ H, D.bk ρ → At K B O σ H ρ → Same H0 (off O H) → De.bk σ H
  ct : ∀ ρ O σ H, D.ct ρ → At K B O σ H ρ → Same H0 (off O H) → De.ct σ H
  ex : ∀ C fs ρ O σ H od, D.ex C fs ρ → At K B O σ H ρ → Same H0 (off O H) → ExcD K (off (O ++ B) H) od fs → W (.ref C) od σ H
theorem takes_noneN {X : Cx} : L2N.Takes X (fun _ _ _ _ => False) := fun _ _ ⟨_, _, _, _, _, _, _, _, _, _, _, _, _, _, _, _, w⟩ => w.elim
def DS (X : Cx) (ρ : List Sl) (st : Stmt) (D : DEnds) : Prop := ∀ B O σ H H0 De W, L2N.Takes X W → At X.K B O σ H ρ → Same H0 (off O H) → Cov X.K B H0 De W D → SS X st De σ H
def DSs (X : Cx) (ρ : List Sl) (st : List Stmt) (D : DEnds) : Prop := ∀ B O σ H H0 De W, L2N.Takes X W → At X.K B O σ H ρ → Same H0 (off O H) → Cov X.K B H0 De W D → SSs X st De σ H
section
variable {X : Cx} {ρ ρ' ρ'' : List Sl} {e a b c o value : Expr} {es : List Expr} {d : D} {ds items : List D} {m : MO} {pos p apos pos' : Pos} {st : Stmt} {rest body : List Stmt} {D : DEnds} {K : PySem.W.Frag} {B O O' : List Addr} {σ : L2.St} {H H1 H2 H0 : Hp} {De : Ends}
theorem Cov.weak {H0' : Hp} {W : WX} (C : Cov K B H0 De W D) (s : Same H0 H0') : Cov K B H0' De W D :=
  ⟨fun ρ O σ H h A q => C.nx ρ O σ H h A (s.trans q), fun d v H h r q => C.rt d v H h r (s.trans q), fun m p o H h n e r q => C.rm m p o H h (s.free n) e r (s.trans q), fun ρ O σ H h A q => C.bk ρ O σ H h A (s.trans q), fun ρ O σ H h A q => C.ct ρ O σ H h A (s.trans q), fun c fs ρ O σ H od h A q => C.ex c fs ρ O σ H od h A (s.trans q)⟩
theorem At.sub (A : At K B O σ H ρ) (hs : ∀ b ∈ O', b ∈ O) {ρ' : List Sl} {σ' : L2.St} (h : Slots K H (off (O ++ B) H) σ' ρ' O') : At K B O' σ' H ρ' :=
  ⟨h.mono (fun _ _ _ e => e) (off_sub fun b hb => (List.mem_append.mp hb).elim (fun q => List.mem_append_left _ (hs b q)) (List.mem_append_right _)), A.al, fun b hb => A.dj b (hs b hb)⟩
theorem keep_grow (s0 : Same H0 (off O H)) (s : Same H H1) : Same H0 (off O H1) := s0.trans (off_same s)
theorem dss_nil (k : D.nx ρ) : DSs X ρ [] D := fun B O σ H H0 De W T A s0 C => pss_nil.ss (C.nx _ _ _ _ k A s0)
theorem dss_st (h : DS X ρ st { D with nx := fun ρ' => DSs X ρ' rest D }) : DSs X ρ (st :: rest) D := fun B O σ H H0 De W T A s0 C =>
  (pss_cons ps_ss pss_ss).ss (h B O σ H H0 { De with nx := fun σ H => SSs X rest De σ H } W T A s0 ⟨fun ρ O σ H h A q => h B O σ H H0 De W T A q C, C.rt, C.rm, C.bk, C.ct, C.ex⟩)
theorem DSs.mono {D' : DEnds} (h : DSs X ρ body D) (h1 : ∀ ρ, D.nx ρ → D'.nx ρ) (h2 : ∀ d, D.rt d → D'.rt d) (h3 : ∀ d, D.rm d → D'.rm d) (h4 : ∀ ρ, D.bk ρ → D'.bk ρ) (h5 : ∀ ρ, D.ct ρ → D'.ct ρ) (h6 : ∀ c fs ρ, D.ex c fs ρ → D'.ex c fs ρ) : DSs X ρ body D' := fun B O σ H H0 De W T A s0 C =>
  h B O σ H H0 De W T A s0 ⟨fun ρ O σ H q => C.nx ρ O σ H (h1 _ q), fun d v H q => C.rt d v H (h2 _ q), fun m p o H q => C.rm m p o H (h3 _ q), fun ρ O σ H q => C.bk ρ O σ H (h4 _ q), fun ρ O σ H q => C.ct ρ O σ H (h5 _ q), fun c fs ρ O σ H od q => C.ex c fs ρ O σ H od (h6 _ _ _ q)⟩
/-- an owned object is data from here on -/
theorem dss_freeze (i : Nat) {m : MO} (k : DSs X (ρ.set i (.dat m.d)) body D) (hρ : ρ[i]? = some (.own m) := by rfl) : DSs X ρ body D := fun B O σ H H0 De W T A s0 C => by
  obtain ⟨a, O', h1, h2, h3, h4, q⟩ := A.sl.freeze hρ
  have sb : Same (off (O ++ B) H) (off (O' ++ B) H) := off_sub fun b hb => (List.mem_append.mp hb).elim (fun q => List.mem_append_left _ (h4 b q)) (List.mem_append_right _)
  refine k B O' σ H H0 De W T ⟨q _ sb (off_ne fun z => (List.mem_append.mp z).elim h2 (A.dj a h1)), A.al, fun b hb => A.dj b (h4 b hb)⟩ (s0.trans (off_sub h4)) C
/-- slots forgotten -/
def Sl.isDat : Sl → Bool
  | .dat _ => true
  | _ => false
def Le : List Sl → List Sl → Prop
  | [], [] => True
  | s :: r, s' :: r' => (s' = s ∨ (s' = .emp ∧ s.isDat = true)) ∧ Le r r'
  | _, _ => False
theorem Le.refl : ∀ ρ, Le ρ ρ
  | [] => trivial
  | _ :: r => ⟨.inl rfl, Le.refl r⟩
theorem Slots.le {G : Hp} (h : Slots K H G σ ρ O) : ∀ {ρ' : List Sl}, Le ρ ρ' → Slots K H G σ ρ' O := by
  induction h with
  | nil =>
    intro ρ' l
    cases ρ' with
    | nil => exact .nil
    | cons _ _ => exact l.elim
  | emp h ih =>
    intro ρ' l
    cases ρ' with
    | nil => exact l.elim
    | cons s r =>
      obtain ⟨l1, l2⟩ := l
      rcases l1 with rfl | ⟨rfl, _⟩
      · exact .emp (ih l2)
      · exact .emp (ih l2)
  | dat r' h ih =>
    intro ρ' l
    cases ρ' with
    | nil => exact l.elim
    | cons s r =>
      obtain ⟨l1, l2⟩ := l
      rcases l1 with rfl | ⟨rfl, _⟩
      · exact .dat r' (ih l2)
      · exact .emp (ih l2)
  | own e m n h ih =>
    intro ρ' l
    cases ρ' with
    | nil => exact l.elim
    | cons s r =>
      obtain ⟨l1, l2⟩ := l
      rcases l1 with rfl | ⟨_, l1⟩
      · exact .own e m n (ih l2)
      · cases l1
theorem At.le (A : At K B O σ H ρ) {ρ' : List Sl} (l : Le ρ ρ') : At K B O σ H ρ' := ⟨A.sl.le l, A.al, A.dj⟩
theorem dss_le {ρ' : List Sl} (l : Le ρ ρ') (k : DSs X ρ' body D) : DSs X ρ body D := fun B O σ H H0 De W T A s0 C => k B O σ H H0 De W T (A.le l) s0 C
/-- up to forgetting -/
def Up (M : List Sl → Prop) (ρ : List Sl) : Prop := ∃ ρ', Le ρ ρ' ∧ M ρ'
theorem Up.of {M : List Sl → Prop} (h : M ρ) : Up M ρ := ⟨ρ, Le.refl ρ, h⟩
theorem ds_cut (M : List Sl → Prop) (h : DS X ρ st { D with nx := Up M }) (k : ∀ ρ', M ρ' → D.nx ρ') : DS X ρ st D := fun B O σ H H0 De W T A s0 C =>
  h B O σ H H0 De W T A s0 ⟨fun ρ O σ H ⟨ρ', l, hm⟩ A q => C.nx ρ' O σ H (k _ hm) (A.le l) q, C.rt, C.rm, C.bk, C.ct, C.ex⟩
/-- x = e -/
theorem ds_set (i : Nat) {x : Str} (hN : X.N.Nodup) (he : DE X ρ e d) (k : D.nx (ρ.set i (.dat d))) (hi : X.N[i]? = some x := by rfl) (hl : Loc X.env.scope x := by first | exact .inl rfl | exact .inr rfl)
    (hs : swapsWith e (some (.Name x pos')) pos.line X.env = pure false := by rfl) (hf : X.fn x = true ∨ X.env.scope.names.lookup x = some .local := by first | exact .inl rfl | exact .inr rfl) : DS X ρ (.Assign [.Name x pos'] e pos) D := fun B O σ H H0 De W T A s0 C =>
  (ps_set hN hi hl pe_se hs hf).ss (he B O σ H _ A fun v H1 s1 r1 => by
    obtain ⟨O', hO, hS⟩ := (A.grow s1).sl.set r1 i
    exact C.nx _ O' _ _ k ((A.grow s1).sub hO hS) ((keep_grow s0 s1).trans (off_sub hO)))
theorem ds_asg {tg : Expr} {is : List Nat} (he : DE X ρ e d) (hg : DG X ρ tg d is ρ') (k : D.nx ρ') (h1 : swapsWithSole [tg] e pos.line X.env = pure false := by rfl) (h2 : swappedStores [tg] e X.env = pure none := by rfl)
    (h3 : (assignEach [tg] X.env).map (·.2) = [assign tg X.env] := by rfl) : DS X ρ (.Assign [tg] e pos) D := fun B O σ H H0 De W T A s0 C =>
  (ps_asg pe_se pg_sg h1 h2 h3).ss (he B O σ H _ A fun v H1 s1 r1 => hg B O σ H1 v _ (A.grow s1) r1 fun σ' A' _ => C.nx _ O _ _ k A' (keep_grow s0 s1))
theorem At.own (A : At K B O σ H ρ) (s0 : Same H0 (off O H)) {p : Addr} {o : HO} (hn : H p = none) (s1 : Same H H1) (he : H1 p = some o) (r : MR K (off (p :: (O ++ B)) H1) p o m) (i : Nat) (hi : i < ρ.length) :
    ∃ O', At K B O' (σ.set i (some (.ref p))) H1 (ρ.set i (.own m)) ∧ Same H0 (off O' H1) := by
  have hp := A.all.new hn
  have hpO : p ∉ O := fun q => hp (List.mem_append_left _ q)
  have sb : Same (off (O ++ B) H) (off (p :: (O ++ B)) H1) := fun b u e => by
    have hb : b ∉ O ++ B := fun q => by rw [off_in q] at e; cases e
    rw [off_ne hb] at e
    rw [off_ne fun q => (List.mem_cons.mp q).elim (fun z => ne_of_none e hn z) hb]
    exact s1 _ _ e
  have S1 : Slots K H1 (off (p :: (O ++ B)) H1) σ ρ O := A.sl.mono (fun a _ o e => s1 a o e) sb
  obtain ⟨O', h1, h2, h3⟩ := S1.setOwn he r hpO i hi
  refine ⟨O', ⟨h3.mono (fun _ _ _ e => e) (off_sub fun b hb => ?_), A.al.mono s1, fun b hb hq => ?_⟩, fun b u e => ?_⟩
  · rcases List.mem_append.mp hb with q | q
    · rcases h1 b q with z | z
      · exact z ▸ List.mem_cons_self
      · exact List.mem_cons_of_mem _ (List.mem_append_left _ z)
    · exact List.mem_cons_of_mem _ (List.mem_append_right _ q)
  · rcases h1 b hb with z | z
    · subst z; exact hp (List.mem_append_right _ hq)
    · exact A.dj b z hq
  · have e' := s0 b u e
    have hb : b ∉ O := fun q => by rw [off_in q] at e'; cases e'
    rw [off_ne hb] at e'
    rw [off_ne fun q => (h1 b q).elim (fun z => ne_of_none e' hn z) hb]
    exact s1 _ _ e'
/-- x = a new object -/
theorem ds_own (i : Nat) {x : Str} (hN : X.N.Nodup) (he : DF X ρ e m) (k : D.nx (ρ.set i (.own m))) (hlt : i < ρ.length := by first | decide | simp [startS]) (hi : X.N[i]? = some x := by rfl) (hl : Loc X.env.scope x := by first | exact .inl rfl | exact .inr rfl)
    (hs : swapsWith e (some (.Name x pos')) pos.line X.env = pure false := by rfl) (hf : X.fn x = true ∨ X.env.scope.names.lookup x = some .local := by first | exact .inl rfl | exact .inr rfl) : DS X ρ (.Assign [.Name x pos'] e pos) D := fun B O σ H H0 De W T A s0 C =>
  (ps_set hN hi hl pe_se hs hf).ss (he B O σ H _ A fun p o H1 hn s1 e1 r1 => by
    obtain ⟨O', A', s'⟩ := A.own s0 hn s1 e1 r1 i hlt
    exact C.nx _ O' _ _ k A' s')
/-- xs.append(e) -/
theorem ds_append (i : Nat) {x : Str} {cpos : Pos} {ds : List DL.D} (he : DE X ρ e d) (hl : ds.length < sizeLine) (k : D.nx (ρ.set i (.own (.lst (ds ++ [d]))))) (hρ : ρ[i]? = some (.own (.lst ds)) := by rfl) (hN : X.N[i]? = some x := by rfl)
    (hv : Vis X.env.scope x := by first | exact .inl rfl | exact .inr (.inl rfl) | exact .inr (.inr rfl)) (hd : (x == ("__debug__" : Str)) = false := by decide) (hcd : (x == ("__classdict__" : Str)) = false := by decide)
    (q1 : attributeBase (.Name x p) "append" X.env (eval (.Name x p) X.env) = eval (.Name x p) X.env := by rfl)
    (q2 : ((((backTo cpos (starEach (e :: []) X.env)).all fun x => !x.1) && (backToKw cpos (keywordEach [] X.env)).all fun x => x.1.isSome) && decide (((e :: []).length + ([] : List Keyword).length + if ([] : List Keyword).isEmpty = true then 0 else 1) < 30)) = true := by rfl)
    (q3 : (apos.endLine == cpos.line) = true := by rfl) (q4 : starEach (e :: []) X.env = (false, eval e X.env) :: starEach [] X.env := by rfl) (q5 : (backTo cpos (starEach [] X.env)).any (·.1) = false := by rfl)
    (hs : swapsWith (.Call (.Attribute (.Name x p) "append" apos) [e] [] cpos) none pos.line X.env = pure false := by rfl) :
    DS X ρ (.Expr (.Call (.Attribute (.Name x p) "append" apos) [e] [] cpos) pos) D := fun B O σ H H0 De W T A s0 C => by
  refine (ps_expr (pe_bm (e := e) (es := []) PySem.F.plainAttrs_list PySem.F.slot_list_append PySem.F.type_list_append mt_append (pe_var hN hv hd hcd) pa_sa q1 q2 q3 q4 q5) hs).ss ?_
  obtain ⟨a, o, e1, e2, e3, e4, q⟩ := A.sl.own_at hρ
  cases e4 with
  | lst ha =>
    refine ⟨_, e1, .inl ⟨rfl, _, SqL.of e3⟩, ?_⟩
    refine da_cons he da_nil q4 B O σ H _ A fun ws H1 s1 r1 => ?_
    obtain ⟨v, rfl, r⟩ := r1.inv1
    refine ⟨_, _, _, rfl, rfl, s1 _ _ e3, by rw [ha.length]; exact hl, ?_⟩
    obtain ⟨a', o', f1, f2, f3, f4, q'⟩ := (A.grow s1).sl.own_at hρ
    rw [e1] at f1; cases f1
    have hoff : ∀ o, off (O ++ B) (upd H1 a o) = off (O ++ B) H1 := fun o => off_upd_in (List.mem_append_left _ e2)
    refine C.nx _ O _ _ k ⟨by rw [hoff]; exact q' _ _ (.lst ((ha.mono (off_same s1)).append (.one r))), fun b hb => ?_, A.dj⟩ ?_
    · rw [upd_ne (show b ≠ a from fun z => A.dj a e2 (z ▸ hb))]; exact A.al.mono s1 b hb
    rw [off_upd_in e2]
    exact keep_grow s0 s1
/-- xs[j] = e -/
theorem ds_setix (i : Nat) {x : Str} {n : Int} {j : Nat} {ds : List DL.D} (he : DE X ρ e d) (hb : DE X ρ b (.int n)) (hj : ixN ds.length n = some j) (k : D.nx (ρ.set i (.own (.lst (ds.set j d))))) (hρ : ρ[i]? = some (.own (.lst ds)) := by rfl) (hN : X.N[i]? = some x := by rfl)
    (hv : Vis X.env.scope x := by first | exact .inl rfl | exact .inr (.inl rfl) | exact .inr (.inr rfl)) (hd : (x == ("__debug__" : Str)) = false := by decide) (hcd : (x == ("__classdict__" : Str)) = false := by decide)
    (q1 : PG X (.Subscript (.Name x p) b pos') (gSub (tVar i) (SE X b) rSetL) := by exact (pg_sub (pe_var rfl (by first | exact .inl rfl | exact .inr (.inl rfl) | exact .inr (.inr rfl))) pe_se set_list))
    (h1 : swapsWithSole [.Subscript (.Name x p) b pos'] e pos.line X.env = pure false := by rfl) (h2 : swappedStores [.Subscript (.Name x p) b pos'] e X.env = pure none := by rfl)
    (h3 : (assignEach [.Subscript (.Name x p) b pos'] X.env).map (·.2) = [assign (.Subscript (.Name x p) b pos') X.env] := by rfl) :
    DS X ρ (.Assign [.Subscript (.Name x p) b pos'] e pos) D := fun B O σ H H0 De W T A s0 C => by
  refine (ps_asg pe_se q1 h1 h2 h3).ss ?_
  refine he B O σ H _ A fun v H1 s1 r1 => ?_
  obtain ⟨a, o, e1, e2, e3, e4, q⟩ := (A.grow s1).sl.own_at hρ
  cases e4 with
  | lst ha =>
    refine ⟨_, e1, hb B O σ H1 _ (A.grow s1) fun w H2 s2 r2 => ?_⟩
    cases r2
    refine ⟨_, _, _, j, rfl, rfl, s2 _ _ e3, by rw [ha.length]; exact hj, ?_⟩
    obtain ⟨a', o', f1, f2, f3, f4, q'⟩ := (A.grow (s1.trans s2)).sl.own_at hρ
    rw [e1] at f1; cases f1
    have hoff : ∀ o, off (O ++ B) (upd H2 a o) = off (O ++ B) H2 := fun o => off_upd_in (List.mem_append_left _ e2)
    refine C.nx _ O _ _ k ⟨by rw [hoff]; exact q' _ _ (.lst ((ha.mono (off_same s2)).set (r1.mono (off_same s2)) j)), fun b hb => ?_, A.dj⟩ ?_
    · rw [upd_ne (show b ≠ a from fun z => A.dj a e2 (z ▸ hb))]; exact A.al.mono (s1.trans s2) b hb
    · rw [off_upd_in e2]
      exact keep_grow s0 (s1.trans s2)
/-- an expression whose value is dropped -/
theorem ds_expr (he : DE X ρ e d) (k : D.nx ρ) (hs : swapsWith e none pos.line X.env = pure false := by rfl) : DS X ρ (.Expr e pos) D := fun B O σ H H0 De W T A s0 C =>
  (ps_expr pe_se hs).ss (he B O σ H _ A fun v H1 s1 r1 => C.nx _ O _ _ k (A.grow s1) (keep_grow s0 s1))
theorem ds_ret (he : DE X ρ e d) (k : D.rt d) : DS X ρ (.Return (some e) pos) D := fun B O σ H H0 De W T A s0 C =>
  (ps_ret pe_se).ss (he B O σ H _ A fun v H1 s1 r1 => C.rt _ _ _ k (r1.mono (off_sub fun b hb => List.mem_append_right _ hb)) (s0.trans (off_le.trans s1)))
theorem ds_retNew (he : DF X ρ e m) (k : D.rm m) : DS X ρ (.Return (some e) pos) D := fun B O σ H H0 De W T A s0 C =>
  (ps_ret pe_se).ss (he B O σ H _ A fun p o H1 hn s1 e1 r1 => C.rm _ _ _ _ k (s0.free (by
    cases q : off O H p with
    | none => rfl
    | some u => exact absurd (off_le p u q) (by rw [hn]; intro z; cases z))) e1 (r1.mono (off_sub fun b hb => by
      rcases List.mem_cons.mp hb with z | z
      · exact z ▸ List.mem_cons_self
      · exact List.mem_cons_of_mem _ (List.mem_append_right _ z))) (s0.trans (off_le.trans s1)))
theorem ds_retOwn (i : Nat) {x : Str} (k : D.rm m) (hρ : ρ[i]? = some (.own m) := by rfl) (hN : X.N[i]? = some x := by rfl)
    (hv : Vis X.env.scope x := by first | exact .inl rfl | exact .inr (.inl rfl) | exact .inr (.inr rfl)) (hd : (x == ("__debug__" : Str)) = false := by decide) (hcd : (x == ("__classdict__" : Str)) = false := by decide) : DS X ρ (.Return (some (.Name x p)) pos) D := fun B O σ H H0 De W T A s0 C => by
  obtain ⟨a, o, e1, e2, e3, e4, q⟩ := A.sl.own_at hρ
  refine (ps_ret (pe_var hN hv hd hcd)).ss ⟨_, e1, C.rm _ _ _ _ k (s0.free (off_in e2)) e3 (e4.mono (off_sub fun b hb => ?_)) (s0.trans off_le)⟩
  rcases List.mem_cons.mp hb with z | z
  · exact z ▸ List.mem_append_left _ e2
  · exact List.mem_append_right _ z
theorem ds_retN (k : D.rt .non) : DS X ρ (.Return none pos) D := fun B O σ H H0 De W T A s0 C => ps_retN.ss (C.rt _ _ _ k .non (s0.trans off_le))
theorem ds_pass (k : D.nx ρ) : DS X ρ (.Pass pos) D := fun B O σ H H0 De W T A s0 C => ps_pass.ss (C.nx _ _ _ _ k A s0)
theorem ds_break (k : D.bk ρ) : DS X ρ (.Break pos) D := fun B O σ H H0 De W T A s0 C => ps_break.ss (C.bk _ _ _ _ k A s0)
theorem ds_continue (k : D.ct ρ) : DS X ρ (.Continue pos) D := fun B O σ H H0 De W T A s0 C => ps_continue.ss (C.ct _ _ _ _ k A s0)
theorem ds_if {z : Bool} {s1 s2 : List Stmt} (hc : DT X ρ c z) (h1 : z = true → DSs X ρ s1 D) (h2 : z = false → DSs X ρ s2 D) : DS X ρ (.If c s1 s2 pos) D := fun B O σ H H0 De W T A s0 C =>
  (ps_if pt_st pss_ss pss_ss).ss (hc B O σ H _ A fun H1 q1 => by
    cases z with
    | true => rw [if_pos rfl]; exact h1 rfl B O σ H1 H0 De W T (A.grow q1) (keep_grow s0 q1) C
    | false => rw [if_neg Bool.false_ne_true]; exact h2 rfl B O σ H1 H0 De W T (A.grow q1) (keep_grow s0 q1) C)
/-- for tg in it: body -/
theorem ds_for {tg it : Expr} (Iv : Nat → List Sl → Prop) (hxe : PassesOwn (model X.prog X.w) X.A X.env X.xe) (hc : X.calm = true) (hi : DI X ρ tg it items) (h0 : Up (Iv 0) ρ)
    (turn : ∀ (k : Nat) x ρ', items[k]? = some x → Iv k ρ' → ∃ is ρ'', DG X ρ' tg x is ρ'' ∧ DSs X ρ'' body { D with nx := Up (Iv (k + 1)), bk := D.nx, ct := Up (Iv (k + 1)) })
    (done : ∀ ρ', Iv items.length ρ' → D.nx ρ') (hfs : ∀ x, foldedSetIterable it X.env x = pure x := by intro _; rfl) : DS X ρ (.For tg it body [] pos) D := fun B O σ H H0 De W T A s0 C => by
  refine (ps_for hxe hc pi_si pg_sg pss_ss hfs).ss ?_
  refine hi B O σ H _ A fun J H1 s1 j => ?_
  have A1 := A.grow s1
  have C1 : Cov X.K B (off O H1) De W D := C.weak (keep_grow s0 s1)
  have inner : ∀ {O' : List Addr} {H' : Hp}, Same (off O H1) (off O' H') → Same (off (O ++ B) H1) (off (O' ++ B) H') := fun {O' H'} q b u e => by
    have hb : b ∉ O ++ B := fun z => by rw [off_in z] at e; cases e
    rw [off_ne hb] at e
    have e' := q b u (by rw [off_ne fun z => hb (List.mem_append_left _ z)]; exact e)
    have hb' : b ∉ O' := fun z => by rw [off_in z] at e'; cases e'
    rw [off_ne hb'] at e'
    rw [off_ne fun z => (List.mem_append.mp z).elim hb' fun z => hb (List.mem_append_right _ z)]
    exact e'
  refine ⟨fun i m σ H => m = items.length - i ∧ i ≤ items.length ∧ ∃ ρ' O', Iv i ρ' ∧ At X.K B O' σ H ρ' ∧ Same (off O H1) (off O' H), (let ⟨ρ', l, h⟩ := h0; ⟨_, rfl, Nat.zero_le _, ρ', O, h, A1.le l, Same.refl _⟩), ?_⟩
  rintro i m σ' H' ⟨rfl, hle, ρ', O', hI, A', q⟩
  by_cases hi' : i < items.length
  · obtain ⟨g1, g2⟩ := j.go B O' H' (inner q) A'.all i _ (List.getElem?_eq_getElem hi')
    refine .inr ⟨g1, fun σ'' H'' => ∃ ρ'' O'', Iv (i + 1) ρ'' ∧ At X.K B O'' σ'' H'' ρ'' ∧ Same (off O H1) (off O'' H''), fun σ'' H'' ⟨ρ'', O'', a1, a2, a3⟩ => ⟨_, by omega, rfl, hi', ρ'', O'', a1, a2, a3⟩, fun x H'' hy => ?_⟩
    obtain ⟨s2, r2⟩ := g2 x H'' hy
    obtain ⟨is, ρ2, hg, hb⟩ := turn i _ ρ' (List.getElem?_eq_getElem hi') hI
    refine hg B O' σ' H'' x _ (A'.grow s2) r2 fun σ2 A2 _ => ?_
    refine hb B O' σ2 H'' (off O H1) _ W T A2 (q.trans (off_same s2)) ⟨fun ρ O σ H ⟨ρ', l, h⟩ A q => ⟨ρ', O, h, A.le l, q⟩, C1.rt, C1.rm, fun ρ O σ H h A q => C1.nx ρ O σ H h A q, fun ρ O σ H ⟨ρ', l, h⟩ A q => ⟨ρ', O, h, A.le l, q⟩, C1.ex⟩
  · have e : i = items.length := by omega
    subst e
    exact .inl ⟨j.stop B O' H' (inner q) _ (Nat.le_refl _), C1.nx _ _ _ _ (done _ hI) A' q⟩
/-- while c: body -/
theorem ds_while (Iv : List Sl → Prop) (μ : List Sl → Nat) (hxe : PassesOwn (model X.prog X.w) X.A X.env X.xe) (h0 : Up Iv ρ)
    (turn : ∀ ρ', Iv ρ' → ∃ z, DT X ρ' c z ∧ (z = true → DSs X ρ' body { D with nx := Up fun ρ'' => Iv ρ'' ∧ μ ρ'' < μ ρ', bk := D.nx, ct := Up fun ρ'' => Iv ρ'' ∧ μ ρ'' < μ ρ' }) ∧ (z = false → D.nx ρ')) : DS X ρ (.While c body [] pos) D := fun B O σ H H0 De W T A s0 C => by
  refine (ps_while hxe pt_st pss_ss).ss ?_
  refine ⟨fun m σ H => ∃ ρ' O', Iv ρ' ∧ μ ρ' = m ∧ At X.K B O' σ H ρ' ∧ Same H0 (off O' H), (let ⟨ρ', l, h⟩ := h0; ⟨_, ρ', O, h, rfl, A.le l, s0⟩), ?_⟩
  rintro m σ' H' ⟨ρ', O', hI, rfl, A', q⟩
  obtain ⟨z, hz, h1, h2⟩ := turn ρ' hI
  refine hz B O' σ' H' _ A' fun H2 s2 => ?_
  cases z with
  | false => rw [if_neg Bool.false_ne_true]; exact C.nx _ _ _ _ (h2 rfl) (A'.grow s2) (keep_grow q s2)
  | true =>
    rw [if_pos rfl]
    refine ⟨fun σ'' H'' => ∃ ρ'' O'', Iv ρ'' ∧ μ ρ'' < μ ρ' ∧ At X.K B O'' σ'' H'' ρ'' ∧ Same H0 (off O'' H''), fun σ'' H'' ⟨ρ'', O'', a1, a2, a3, a4⟩ => ⟨_, a2, ρ'', O'', a1, rfl, a3, a4⟩, ?_⟩
    exact h1 rfl B O' σ' H2 H0 _ W T (A'.grow s2) (keep_grow q s2) ⟨fun ρ O σ H ⟨ρ', l, h⟩ A q => ⟨ρ', O, h.1, h.2, A.le l, q⟩, C.rt, C.rm, fun ρ O σ H h A q => C.nx ρ O σ H h A q, fun ρ O σ H ⟨ρ', l, h⟩ A q => ⟨ρ', O, h.1, h.2, A.le l, q⟩, C.ex⟩

/-! ### what is owned is read as data where a scalar comes of it -/
def Sl.peek : Sl → Sl
  | .own m => .dat m.d
  | s => s
def D.scal : DL.D → Bool
  | .non => true
  | .bl _ => true
  | .int _ => true
  | .str _ => true
  | _ => false
theorem DR.scal {K : PySem.W.Frag} {G G' : Hp} {v : V} {d : DL.D} (h : DR K G v d) (hs : d.scal = true) : DR K G' v d := by
  cases h with
  | non => exact .non
  | bl b => exact .bl b
  | int i => exact .int i
  | str x => exact .str x
  | _ => cases hs
theorem Slots.peek {G : Hp} (h : Slots K H G σ ρ O) (s : Same G H) : Slots K H H σ (ρ.map Sl.peek) [] := by
  induction h with
  | nil => exact .nil
  | emp _ ih => exact .emp ih
  | dat r _ ih => exact .dat (r.mono s) ih
  | own e r n _ ih => exact .dat ((r.mono s).dr e) ih
theorem At.peek (A : At K B O σ H ρ) : At K [] [] σ H (ρ.map Sl.peek) := ⟨by rw [show off (([] : List Addr) ++ []) H = H from off_nil]; exact A.sl.peek off_le, (fun _ h => nomatch h), (fun _ h => nomatch h)⟩
theorem de_peek (h : DE X (ρ.map Sl.peek) e d) (hs : d.scal = true := by rfl) : DE X ρ e d := fun B O σ H Q A k => h [] [] σ H Q A.peek fun v H' s r => k v H' s (r.scal hs)
theorem dt_peek {z : Bool} (h : DT X (ρ.map Sl.peek) e z) : DT X ρ e z := fun B O σ H Q A k => h [] [] σ H Q A.peek k
/-- an item of an owned list -/
theorem de_ixO (i : Nat) {x : Str} {n : Int} {ds : List DL.D} (h' : DE X ρ b (.int n)) (q : atI ds n = some d) (hρ : ρ[i]? = some (.own (.lst ds)) := by rfl) (hN : X.N[i]? = some x := by rfl)
    (hv : Vis X.env.scope x := by first | exact .inl rfl | exact .inr (.inl rfl) | exact .inr (.inr rfl)) (hd : (x == ("__debug__" : Str)) = false := by decide) (hcd : (x == ("__classdict__" : Str)) = false := by decide)
    (hp : PlainIx b := by exact (fun _ _ => rfl)) : DE X ρ (.Subscript (.Name x p) b pos) d := fun B O σ H Q A k => by
  obtain ⟨a, o, e1, e2, e3, e4, _⟩ := A.sl.own_at hρ
  cases e4 with
  | lst ha =>
    refine (pe_ix ix_list (pe_var hN hv hd hcd) pe_se hp).se ⟨_, e1, h' B O σ H _ A fun y H2 s2 r2 => ?_⟩
    cases r2
    obtain ⟨v, e, r⟩ := atI_drs ha q
    exact ⟨_, _, _, _, rfl, rfl, s2.seq (SqL.of e3), e, k _ _ s2 (r.mono (off_same s2))⟩
end

/-! ### comprehensions -/
def wipeS (ρ : List Sl) : List Nat → List Sl
  | [] => ρ
  | v :: vs => (wipeS ρ vs).set v .emp
def DTs (X : Cx) (ρ : List Sl) (ifs : List Expr) (z : Bool) : Prop := ∀ B O σ H (Q : Bool → Hp → Prop), At X.K B O σ H ρ → (∀ H', Same H H' → Q z H') → STs X ifs σ H Q
section
variable {X : Cx} {ρ : List Sl} {e elt tg iter : Expr} {ifs : List Expr} {items : List D} {pos : Pos} {scope : Scope} {own : List (Str × Nat)} {K : PySem.W.Frag} {B O : List Addr} {σ : L2.St} {H H1 : Hp}
theorem dts_nil : DTs X ρ [] true := fun B O σ H Q A k => pts_nil.st (k _ (Same.refl _))
theorem dts_one {z : Bool} (h : DT X ρ e z) : DTs X ρ [e] z := fun B O σ H Q A k => (pts_one pt_st).st (h B O σ H Q A k)
theorem At.wipe (A : At K B O σ H ρ) : ∀ vs : List Nat, (∀ i ∈ vs, ∀ m, ρ[i]? ≠ some (.own m)) → At K B O (wipe σ vs) H (wipeS ρ vs)
  | [], _ => A
  | v :: vs, h => by
    have ih := A.wipe vs fun i hi => h i (List.mem_cons_of_mem _ hi)
    refine ⟨ih.sl.clr v fun m q => ?_, ih.al, ih.dj⟩
    have aux : ∀ ws : List Nat, (wipeS ρ ws)[v]? = some (.own m) → ρ[v]? = some (.own m) := by
      intro ws
      induction ws with
      | nil => exact fun h => h
      | cons w ws ih =>
        intro hq
        unfold wipeS at hq
        by_cases hw : w = v
        · subst hw
          by_cases hl : w < (wipeS ρ ws).length
          · rw [List.getElem?_set_self hl] at hq; cases hq
          · rw [List.getElem?_eq_none (by rw [List.length_set]; omega)] at hq; cases hq
        · rw [List.getElem?_set_ne hw] at hq
          exact ih hq
    exact h v List.mem_cons_self m (aux vs q)
theorem filt_take {α : Type} {t : α → Bool} {xs : List α} {i : Nat} {x : α} (h : xs[i]? = some x) : (xs.take (i + 1)).filter t = (xs.take i).filter t ++ (if t x = true then [x] else []) := by
  have hi : i < xs.length := (List.getElem?_eq_some_iff.mp h).1
  have e : xs.take (i + 1) = xs.take i ++ [x] := by
    rw [List.take_succ_eq_append_getElem hi]
    rw [List.getElem?_eq_getElem hi] at h
    cases h; rfl
  rw [e, List.filter_append]
  by_cases q : t x = true
  · simp [q]
  · simp [q]
/-- the heart of a comprehension: its reading -/
theorem lc_read {α : Type} {items : List α} {f : α → D} (t : α → Bool) (g : α → D) (hi : DI X ρ tg iter (items.map f)) (hsz : items.length ≤ sizeLine)
    (hel : ∀ x ∈ items, ∃ is ρ', (∀ i ∈ is, i ∈ own.map (·.2)) ∧ ∀ (s : Shared) (H : Hp) (C : Addr) (cl : List (Str × Addr)) (fp : List Addr), DG (X.blk s H scope (compEnvC scope cl C X.env) fp) (wipeS ρ (own.map (·.2))) tg (f x) is ρ' ∧
      DTs (X.blk s H scope (compEnvC scope cl C X.env) fp) ρ' ifs (t x) ∧ (t x = true → DE (X.blk s H scope (compEnvC scope cl C X.env) fp) ρ' elt (g x)))
    (hw : ∀ i ∈ own.map (·.2), ∀ m, ρ[i]? ≠ some (.own m)) {Q : VK} (A : At X.K B O σ H ρ) (k : New X.K (O ++ B) H (.lst ((items.filter t).map g)) Q) :
    tLc (SI X tg iter) (fun v σ H Q => ∀ (s : Shared) (H' : Hp) (C : Addr) (cl : List (Str × Addr)) (fp : List Addr), SG (X.blk s H' scope (compEnvC scope cl C X.env) fp) tg v σ H Q)
      (fun σ H Q => ∀ (s : Shared) (H' : Hp) (C : Addr) (cl : List (Str × Addr)) (fp : List Addr), STs (X.blk s H' scope (compEnvC scope cl C X.env) fp) ifs σ H Q)
      (fun σ H Q => ∀ (s : Shared) (H' : Hp) (C : Addr) (cl : List (Str × Addr)) (fp : List Addr), SE (X.blk s H' scope (compEnvC scope cl C X.env) fp) elt σ H Q) (own.map (·.2)) σ H Q := by
  refine hi B O σ H _ A fun J H1 s1 j => ?_
  intro Dl hD
  have A1 := A.grow s1
  have inner : ∀ {H' : Hp}, Same H1 (off [Dl] H') → Same (off (O ++ B) H1) (off (O ++ (Dl :: B)) H') := fun {H'} q b u e => by
    have hb : b ∉ O ++ B := fun z => by rw [off_in z] at e; cases e
    rw [off_ne hb] at e
    have hbD : b ≠ Dl := ne_of_none e hD
    rw [off_ne fun z => (List.mem_append.mp z).elim (fun z => hb (List.mem_append_left _ z)) fun z => (List.mem_cons.mp z).elim hbD fun z => hb (List.mem_append_right _ z)]
    exact off_le b u (q b u e)
  refine ⟨fun i m H' => m = items.length - i ∧ i ≤ items.length ∧ Same H1 (off [Dl] H') ∧ ∃ acc, H' Dl = some (.lst acc) ∧ DRs X.K (off (O ++ (Dl :: B)) H') acc (((items.take i).filter t).map g), ⟨_, rfl, Nat.zero_le _, fun b u e => ?_, [], upd_same, by simp; exact .nil⟩, ?_⟩
  · have hb : b ≠ Dl := ne_of_none e hD
    rw [off_ne (by simpa using hb), upd_ne hb]; exact e
  rintro i m H' ⟨rfl, hle, q, acc, hacc, racc⟩
  have AD : At X.K (Dl :: B) O σ H' ρ := A1.more hD q hacc
  by_cases hlt : i < items.length
  · obtain ⟨g1, g2⟩ := j.go (Dl :: B) O H' (inner q) AD.all i (f items[i]) (by rw [List.getElem?_map, List.getElem?_eq_getElem hlt]; rfl)
    refine .inr ⟨g1, fun H'' => Same H1 (off [Dl] H'') ∧ ∃ acc, H'' Dl = some (.lst acc) ∧ DRs X.K (off (O ++ (Dl :: B)) H'') acc (((items.take (i + 1)).filter t).map g), fun H'' ⟨a1, a2⟩ => ⟨_, by omega, rfl, hlt, a1, a2⟩, fun x H2 hy => ?_⟩
    obtain ⟨s2, r2⟩ := g2 x H2 hy
    have hx : items[i] ∈ items := List.getElem_mem hlt
    obtain ⟨is, ρ', his, hall⟩ := hel _ hx
    intro s H' C cl fp
    refine (hall s H' C cl fp).1 (Dl :: B) O _ H2 x _ ((AD.grow s2).wipe _ hw) r2 fun σ2 A2 w2 => ⟨?_, ?_⟩
    · have w3 := w2 (own.map (·.2)) his
      have idem : ∀ (vs : List Nat), wipe (wipe σ vs) vs = wipe σ vs := by
        intro vs
        have aux : ∀ (ws : List Nat) (τ : L2.St), (∀ i ∈ ws, ∀ v, τ[i]? ≠ some (some v)) → wipe τ ws = τ := by
          intro ws
          induction ws with
          | nil => intro τ _; rfl
          | cons w ws ih =>
            intro τ h
            unfold wipe
            rw [ih τ fun i hi => h i (List.mem_cons_of_mem _ hi)]
            apply List.ext_getElem?
            intro n
            by_cases hn : w = n
            · subst hn
              by_cases hl : w < τ.length
              · rw [List.getElem?_set_self hl]
                have := h w List.mem_cons_self
                rw [List.getElem?_eq_getElem hl] at this ⊢
                cases e : τ[w] with
                | none => rfl
                | some v => exact absurd (by rw [e]) (this v)
              · rw [List.getElem?_eq_none (by rw [List.length_set]; omega), List.getElem?_eq_none (by omega)]
            · rw [List.getElem?_set_ne hn]
        exact aux vs _ fun i hi v e => (wipe_some e).2 hi
      rw [w3, idem]
    · intro s H' C cl fp
      refine (hall s H' C cl fp).2.1 (Dl :: B) O σ2 H2 _ A2 fun H3 s3 => ?_
      by_cases ht : t items[i] = true
      · rw [if_pos ht]
        intro s H' C cl fp
        refine (hall s H' C cl fp).2.2 ht (Dl :: B) O σ2 H3 _ (A2.grow s3) fun y H4 s4 r4 => ?_
        have s24 := s2.trans (s3.trans s4)
        refine ⟨acc, s24 _ _ hacc, ?_, fun b u e => ?_, _, upd_same, ?_⟩
        · have := racc.length
          have h1 : (((items.take i).filter t).map g).length ≤ i := by
            rw [List.length_map]
            exact Nat.le_trans (List.length_filter_le _ _) (by rw [List.length_take]; omega)
          omega
        · have e' := q b u e
          have hb : b ∉ [Dl] := fun z => by rw [off_in z] at e'; cases e'
          rw [off_ne hb] at e' ⊢
          rw [upd_ne (by simpa using hb)]
          exact s24 _ _ e'
        · have hD' : Dl ∈ O ++ (Dl :: B) := List.mem_append_right _ List.mem_cons_self
          rw [off_upd_in hD', filt_take (List.getElem?_eq_getElem hlt), if_pos ht, List.map_append]
          exact (racc.mono (off_same s24)).append (.one r4)
      · rw [if_neg ht]
        have s23 := s2.trans s3
        refine ⟨fun b u e => ?_, acc, s23 _ _ hacc, ?_⟩
        · have e' := q b u e
          have hb : b ∉ [Dl] := fun z => by rw [off_in z] at e'; cases e'
          rw [off_ne hb] at e' ⊢
          exact s23 _ _ e'
        · rw [filt_take (List.getElem?_eq_getElem hlt), if_neg ht, List.append_nil]
          exact racc.mono (off_same s23)
  · have e : i = items.length := by omega
    subst e
    refine .inl ⟨j.stop (Dl :: B) O H' (inner q) _ (by rw [List.length_map]; exact Nat.le_refl _), ?_⟩
    rw [List.take_length] at racc
    refine k Dl _ H' (s1.free hD) (s1.trans (q.trans off_le)) hacc (.lst (racc.mono (off_sub fun b hb => ?_)))
    rcases List.mem_cons.mp hb with z | z
    · exact z ▸ List.mem_append_right _ List.mem_cons_self
    · exact (List.mem_append.mp z).elim (List.mem_append_left _) fun z => List.mem_append_right _ (List.mem_cons_of_mem _ z)
/-- [elt for tg in iter if ifs] -/
theorem df_lc (own : List (Str × Nat)) {α : Type} {items : List α} {f : α → D} (t : α → Bool) (g : α → D) (hc : X.calm = true) (hN : X.N.Nodup) (hi : DI X ρ tg iter (items.map f)) (ok : BlkOk X.N X.env.scope scope own) (hsz : items.length ≤ sizeLine)
    (hel : ∀ x ∈ items, ∃ is ρ', (∀ i ∈ is, i ∈ own.map (·.2)) ∧ ∀ (s : Shared) (H : Hp) (C : Addr) (cl : List (Str × Addr)) (fp : List Addr), DG (X.blk s H scope (compEnvC scope cl C X.env) fp) (wipeS ρ (own.map (·.2))) tg (f x) is ρ' ∧
      DTs (X.blk s H scope (compEnvC scope cl C X.env) fp) ρ' ifs (t x) ∧ (t x = true → DE (X.blk s H scope (compEnvC scope cl C X.env) fp) ρ' elt (g x)))
    (hw : ∀ i ∈ own.map (·.2), ∀ m, ρ[i]? ≠ some (.own m) := by intro i hi m h; simp at hi; subst hi; cases h) (hfs : ∀ x, foldedSetIterable iter X.env x = pure x := by intro _; rfl) :
    DF X ρ (.ListComp elt [⟨tg, iter, ifs, 0⟩] scope pos) (.lst ((items.filter t).map g)) := fun B O σ H Q A k =>
  (pe_lc hc hN pi_si ok (fun s H C cl fp => ⟨fun pins s' σ H v u Q I r h => (h s _ C cl fp).run pins s' u I r⟩) (fun s H C cl fp => ⟨fun pins s' σ H Q I h => (h s _ C cl fp).run pins s' I⟩) (fun s H C cl fp => ⟨fun pins s' σ H Q I h => (h s _ C cl fp).run pins s' I⟩) hfs).se (lc_read t g hi hsz hel hw A k)
/-- y = [elt for ..] -/
theorem ds_setLc (i : Nat) (own : List (Str × Nat)) {α : Type} {items : List α} {f : α → D} (t : α → Bool) (g : α → D) {y : Str} {py spos : Pos} {De : DEnds} (hc : X.calm = true) (hN : X.N.Nodup) (hi : DI X ρ tg iter (items.map f)) (ok : BlkOk X.N X.env.scope scope own) (hsz : items.length ≤ sizeLine)
    (hel : ∀ x ∈ items, ∃ is ρ', (∀ i ∈ is, i ∈ own.map (·.2)) ∧ ∀ (s : Shared) (H : Hp) (C : Addr) (cl : List (Str × Addr)) (fp : List Addr), DG (X.blk s H scope (compEnvC scope cl C X.env) fp) (wipeS ρ (own.map (·.2))) tg (f x) is ρ' ∧
      DTs (X.blk s H scope (compEnvC scope cl C X.env) fp) ρ' ifs (t x) ∧ (t x = true → DE (X.blk s H scope (compEnvC scope cl C X.env) fp) ρ' elt (g x)))
    (k : De.nx (ρ.set i (.own (.lst ((items.filter t).map g)))))
    (hlt : i < ρ.length := by first | decide | simp [startS]) (hy : X.N[i]? = some y := by rfl) (hyl : X.env.scope.names.lookup y = some .local := by rfl) (hsw : swapsWith (.ListComp elt [⟨tg, iter, ifs, 0⟩] scope pos) (some (.Name y py)) spos.line X.env = pure true := by exact sw_true rfl rfl rfl (by decide +kernel))
    (hw : ∀ i ∈ own.map (·.2), ∀ m, ρ[i]? ≠ some (.own m) := by intro i hi m h; simp at hi; subst hi; cases h) (hfs : ∀ x, foldedSetIterable iter X.env x = pure x := by intro _; rfl) :
    DS X ρ (.Assign [.Name y py] (.ListComp elt [⟨tg, iter, ifs, 0⟩] scope pos) spos) De := fun B O σ H H0 E W T A s0 C =>
  (ps_setLc hc hN hy hyl hsw pi_si ok (fun s H C cl fp => ⟨fun pins s' σ H v u Q I r h => (h s _ C cl fp).run pins s' u I r⟩) (fun s H C cl fp => ⟨fun pins s' σ H Q I h => (h s _ C cl fp).run pins s' I⟩) (fun s H C cl fp => ⟨fun pins s' σ H Q I h => (h s _ C cl fp).run pins s' I⟩) hfs).ss
    (lc_read t g hi hsz hel hw A fun p o H1 hn s1 e1 r1 => by
      obtain ⟨O', A', s'⟩ := A.own s0 hn s1 e1 r1 i hlt
      exact C.nx _ O' _ _ k A' s')
end
end DL
set_option Elab.async false
set_option linter.all false
set_option maxRecDepth 100000
set_option maxHeartbeats 1000000
/-! DL5: defs and calls; exceptions: raise, try, isinstance. -/
namespace DL
open PySem PySem.Spec PyProof.Rows L2

inductive Out where
  | val (d : D) | new (m : MO) | exc (C : Addr) (fs : Option (List (Str × D)))
def Out.k (K : PySem.W.Frag) (B : List Addr) (H : Hp) (Q : VK) (E : XK) : Out → Prop
  | .val d => ∀ v H', Same H H' → DR K (off B H') v d → Q v H'
  | .new m => ∀ p o H', H p = none → Same H H' → H' p = some o → MR K (off (p :: B) H') p o m → Q (.ref p) H'
  | .exc C fs => ∀ H' od, Same H H' → ExcD K (off B H') od fs → E (.ref C) od H'
/-- a def that changes nothing: R tells what it gives of the data ds -/
def spD (K : PySem.W.Frag) (R : List D → Out → Prop) : Sp := fun vs H Q E => ∃ B ds out, Al B H ∧ DRs K (off B H) vs ds ∧ R ds out ∧ Out.k K B H Q E out
def Out.ends : Out → DEnds
  | .val d => { nx := fun _ => d = .non, rt := fun e => e = d }
  | .new m => { nx := fun _ => False, rm := fun e => e = m }
  | .exc C fs => { nx := fun _ => False, ex := fun C' fs' _ => C' = C ∧ fs' = fs }
def startS (N : List Str) (ds : List D) : List Sl := ds.map .dat ++ List.replicate (N.length - ds.length) .emp
theorem slots_emp {K : PySem.W.Frag} {H G : Hp} : ∀ n, Slots K H G (List.replicate n none) (List.replicate n .emp) []
  | 0 => .nil
  | n + 1 => .emp (slots_emp n)
theorem slots_start {K : PySem.W.Frag} {H G : Hp} {N : List Str} {vs : List V} {ds : List D} (h : DRs K G vs ds) : Slots K H G (L2.start N vs) (startS N ds) [] := by
  have hl := h.length
  unfold L2.start startS
  rw [hl]
  have aux : ∀ (vs : List V) (ds : List D), DRs K G vs ds → ∀ n, Slots K H G (vs.map some ++ List.replicate n none) (ds.map .dat ++ List.replicate n .emp) [] := by
    intro vs ds h
    induction ds generalizing vs with
    | nil => intro n; cases h; exact slots_emp n
    | cons d ds ih => intro n; cases h with | cons h1 r => exact .dat h1 (ih _ r n)
  exact aux vs ds h _
theorem out_cov {K : PySem.W.Frag} {B : List Addr} {H : Hp} {Q : VK} {E : XK} {out : Out} {W : WX} (hk : Out.k K B H Q E out) (hW : ∀ C fs, out = .exc C fs → ∀ cls d σ H, E cls d H → W cls d σ H) : Cov K B H { nx := fun _ H' => Q .non H', rt := Q } W out.ends := by
  cases out with
  | val d =>
    refine ⟨fun ρ O σ H' h A q => ?_, fun d' v H' h r q => ?_, fun m p o H' h => h.elim, fun ρ O σ H' h => h.elim, fun ρ O σ H' h => h.elim, fun C fs ρ O σ H' od h => h.elim⟩
    · have h : d = .non := h
      subst h; exact hk _ _ (q.trans off_le) .non
    · have h : d' = d := h
      subst h; exact hk _ _ q r
  | new m =>
    refine ⟨fun ρ O σ H' h => h.elim, fun d' v H' h => h.elim, fun m' p o H' h n e r q => ?_, fun ρ O σ H' h => h.elim, fun ρ O σ H' h => h.elim, fun C fs ρ O σ H' od h => h.elim⟩
    have h : m' = m := h
    subst h; exact hk _ _ _ n q e r
  | exc C fs =>
    refine ⟨fun ρ O σ H' h => h.elim, fun d' v H' h => h.elim, fun m' p o H' h => h.elim, fun ρ O σ H' h => h.elim, fun ρ O σ H' h => h.elim, fun C' fs' ρ O σ H' od h A q r => ?_⟩
    obtain ⟨rfl, rfl⟩ : C' = C ∧ fs' = fs := h
    exact hW _ _ rfl _ _ _ _ (hk H' od (q.trans off_le) (r.mono (off_sub fun b hb => List.mem_append_right _ hb)))
section
variable {P : Program} {w : World} {K : PySem.W.Frag} {mg : Str → Option Value} {base : Heap}
/-- a def that raises nothing -/
theorem dfn {x qual : Str} {st : Stmt} {f : Addr} {fd : FuncData} {N ps : List Str} {k : Nat} {R : List D → Out → Prop} (F : Fun K x qual st f fd) (S : FnScope N ps (defScope st)) (len : ∀ ds out, R ds out → ds.length = ps.length ∧ ∀ C fs, out ≠ .exc C fs)
    (body : ∀ ds out, R ds out → ∀ (cdv : Value) (A : Around) (outer : List Env) (s : Shared) (H : Hp) (E : XK), Room k (A.deeper (envOfC qual (defScope st) s.heap.objs.size f cdv)) →
      DSs (cxOf CX0 P w K mg base N qual (defScope st) f cdv A outer s H E).nox (startS N ds) (defBody st) out.ends) : FnOk P w K mg base CX0 (k + 1) f fd ps (spD K R) := by
  refine F.ok S (fun vs H Q E h => ?_) (fun cdv A outer s H vs Q E hr h => ?_)
  · obtain ⟨B, ds, out, _, r, hR, _⟩ := h
    rw [r.length]; exact (len _ _ hR).1
  · obtain ⟨B, ds, out, al, r, hR, hk⟩ := h
    refine ⟨_, pss_ss, ?_⟩
    exact body ds out hR cdv A outer s H E hr B [] (L2.start N vs) H H _ (fun _ _ _ _ => False) takes_noneN ⟨slots_start (by rw [List.nil_append]; exact r), al, fun b hb => by cases hb⟩ (by rw [off_nil]; exact Same.refl _)
      (out_cov hk fun C fs e => absurd e ((len _ _ hR).2 C fs))
theorem Fun_okN {CX : CXT} {x qual : Str} {st : Stmt} {f : Addr} {fd : FuncData} {N ps : List Str} {k : Nat} {sp : Sp} (F : Fun K x qual st f fd) (S : FnScope N ps (defScope st)) (len : ∀ vs H Q E, sp vs H Q E → vs.length = ps.length)
    (hbody : ∀ (cdv : Value) (A : Around) (outer : List Env) (s : Shared) (H : Hp) (vs : List V) (Q : VK) (E : XK), Room k (A.deeper (envOfC qual (defScope st) s.heap.objs.size f cdv)) → sp vs H Q E →
      ∃ t, PSs (cxOf CX P w K mg base N qual (defScope st) f cdv A outer s H E) (defBody st) t ∧ t { nx := fun _ H' => Q .non H', rt := Q } (L2.start N vs) H) : FnOk P w K mg base CX (k + 1) f fd ps sp := by
  obtain ⟨oc, od, kV, doc, pm, an, cdv, ct, osl, rfl, lk, hcd⟩ := F.ex
  exact fn_of lk hcd S len fun A outer s H vs Q E hr hsp => hbody cdv A outer s H vs Q E hr hsp
/-- a def that may raise -/
theorem dfnX {x qual : Str} {st : Stmt} {f : Addr} {fd : FuncData} {N ps : List Str} {k : Nat} {R : List D → Out → Prop} (F : Fun K x qual st f fd) (S : FnScope N ps (defScope st)) (len : ∀ ds out, R ds out → ds.length = ps.length)
    (body : ∀ ds out, R ds out → ∀ (cdv : Value) (A : Around) (outer : List Env) (s : Shared) (H : Hp) (E : XK), Room k (A.deeper (envOfC qual (defScope st) s.heap.objs.size f cdv)) →
      DSs (cxOf (L2N.CX P w) P w K mg base N qual (defScope st) f cdv A outer s H E) (startS N ds) (defBody st) out.ends) : FnOk P w K mg base (L2N.CX P w) (k + 1) f fd ps (spD K R) := by
  refine Fun_okN F S (fun vs H Q E h => ?_) (fun cdv A outer s H vs Q E hr h => ?_)
  · obtain ⟨B, ds, out, _, r, hR, _⟩ := h
    rw [r.length]; exact len _ _ hR
  · obtain ⟨B, ds, out, al, r, hR, hk⟩ := h
    refine ⟨_, pss_ss, ?_⟩
    exact body ds out hR cdv A outer s H E hr B [] (L2.start N vs) H H _ (fun cls d _ H => E cls d H) (L2N.takes_of rfl rfl rfl rfl) ⟨slots_start (by rw [List.nil_append]; exact r), al, fun b hb => by cases hb⟩ (by rw [off_nil]; exact Same.refl _)
      (out_cov hk fun C fs e cls d σ H h => h)
variable {X : Cx} {ρ : List Sl} {e : Expr} {es : List Expr} {ds : List D} {d : D} {m : MO} {p pos : Pos}
/-- a def that may raise, where it does not -/
theorem passX : Passes (L2N.CX X.prog X.w) X (fun _ _ _ => False) := fun pins σ H s e s' I ⟨_, _, _, _, _, _, _, _, _, _, _, _, h⟩ => h.elim
theorem de_call {CX : CXT} {k : Nat} {f : Addr} {fd : FuncData} {ps : List Str} {R : List D → Out → Prop} {x : Str} {E : XK} (F : FnOk X.prog X.w X.K X.mg X.base CX k f fd ps (spD X.K R)) (hr : Room k X.A) (hm : X.mg x = some (.ref f)) (hk : PySem.W.keepIn X.K (.ref f) = true)
    (hb : Binds X.K fd ps []) (hx : Passes CX X E) (ha : DA X ρ (e :: es) ds) (hR : R ds (.val d)) (hg : Gl X x := by rfl) (hd : (x == ("__debug__" : Str)) = false := by decide)
    (hs : starEach (e :: es) X.env = (false, eval e X.env) :: starEach es X.env := by rfl) (hpl : (backTo pos (starEach es X.env)).any (·.1) = false := by rfl) : DE X ρ (.Call (.Name x p) (e :: es) [] pos) d := fun B O σ H Q A kk =>
  (pe_call F hr hg hm hk hb .nil hx pa_sa hd hs hpl).se (ha B O σ H _ A fun vs H1 s1 r1 => by
    rw [List.append_nil]
    exact ⟨O ++ B, ds, .val d, A.all.mono s1, r1, hR, kk.grow s1⟩)
theorem df_call {CX : CXT} {k : Nat} {f : Addr} {fd : FuncData} {ps : List Str} {R : List D → Out → Prop} {x : Str} {E : XK} (F : FnOk X.prog X.w X.K X.mg X.base CX k f fd ps (spD X.K R)) (hr : Room k X.A) (hm : X.mg x = some (.ref f)) (hk : PySem.W.keepIn X.K (.ref f) = true)
    (hb : Binds X.K fd ps []) (hx : Passes CX X E) (ha : DA X ρ (e :: es) ds) (hR : R ds (.new m)) (hg : Gl X x := by rfl) (hd : (x == ("__debug__" : Str)) = false := by decide)
    (hs : starEach (e :: es) X.env = (false, eval e X.env) :: starEach es X.env := by rfl) (hpl : (backTo pos (starEach es X.env)).any (·.1) = false := by rfl) : DF X ρ (.Call (.Name x p) (e :: es) [] pos) m := fun B O σ H Q A kk =>
  (pe_call F hr hg hm hk hb .nil hx pa_sa hd hs hpl).se (ha B O σ H _ A fun vs H1 s1 r1 => by
    rw [List.append_nil]
    exact ⟨O ++ B, ds, .new m, A.all.mono s1, r1, hR, kk.grow s1⟩)
/-- e raises -/
def DEX (X : Cx) (ρ : List Sl) (e : Expr) (C : Addr) (fs : Option (List (Str × D))) : Prop := ∀ B O σ H Q W, L2N.Takes X W → At X.K B O σ H ρ → (∀ H' od, Same H H' → ExcD X.K (off (O ++ B) H') od fs → W (.ref C) od σ H') → SE X e σ H Q
theorem dx_call {k : Nat} {f : Addr} {fd : FuncData} {ps : List Str} {R : List D → Out → Prop} {x : Str} {C : Addr} {fs : Option (List (Str × D))} (F : FnOk X.prog X.w X.K X.mg X.base (L2N.CX X.prog X.w) k f fd ps (spD X.K R)) (hr : Room k X.A) (hm : X.mg x = some (.ref f)) (hk : PySem.W.keepIn X.K (.ref f) = true)
    (hb : Binds X.K fd ps []) (ha : DA X ρ (e :: es) ds) (hR : R ds (.exc C fs)) (hg : Gl X x := by rfl) (hd : (x == ("__debug__" : Str)) = false := by decide)
    (hs : starEach (e :: es) X.env = (false, eval e X.env) :: starEach es X.env := by rfl) (hpl : (backTo pos (starEach es X.env)).any (·.1) = false := by rfl) : DEX X ρ (.Call (.Name x p) (e :: es) [] pos) C fs := fun B O σ H Q W T A kk =>
  (pe_callS F hr hg hm hk hb (E := WE W) (fun σ => L2N.passAt T σ) pa_sa hd hs hpl).se (ha B O σ H _ A fun vs H1 s1 r1 =>
    ⟨O ++ B, ds, .exc C fs, A.all.mono s1, r1, hR, fun H' od s' r => kk H' od (s1.trans s') r⟩)
variable {D' : DEnds} {C : Addr} {fs : Option (List (Str × D))} {pos' : Pos} {B O : List Addr} {σ : L2.St} {H H0 : Hp} {De : Ends} {W : WX}
theorem ds_exprX (he : DEX X ρ e C fs) (k : D'.ex C fs ρ) (hs : swapsWith e none pos.line X.env = pure false := by rfl) : DS X ρ (.Expr e pos) D' := fun B O σ H H0 De W T A s0 Cv =>
  (ps_expr pe_se hs).ss (he B O σ H _ W T A fun H1 od s1 r => Cv.ex _ _ _ _ _ _ _ k (A.grow s1) (keep_grow s0 s1) r)
theorem ds_setX {i : Nat} {x : Str} (hN : X.N.Nodup) (he : DEX X ρ e C fs) (k : D'.ex C fs ρ) (hi : X.N[i]? = some x) (hl : Loc X.env.scope x)
    (hs : swapsWith e (some (.Name x pos')) pos.line X.env = pure false := by rfl) (hf : X.fn x = true ∨ X.env.scope.names.lookup x = some .local := by first | exact .inl rfl | exact .inr rfl) : DS X ρ (.Assign [.Name x pos'] e pos) D' := fun B O σ H H0 De W T A s0 Cv =>
  (ps_set hN hi hl pe_se hs hf).ss (he B O σ H _ W T A fun H1 od s1 r => Cv.ex _ _ _ _ _ _ _ k (A.grow s1) (keep_grow s0 s1) r)
theorem ds_retX (he : DEX X ρ e C fs) (k : D'.ex C fs ρ) : DS X ρ (.Return (some e) pos) D' := fun B O σ H H0 De W T A s0 Cv =>
  (ps_ret pe_se).ss (he B O σ H _ W T A fun H1 od s1 r => Cv.ex _ _ _ _ _ _ _ k (A.grow s1) (keep_grow s0 s1) r)
/-! ### raise -/
/-- e makes an exception -/
def DMk (X : Cx) (ρ : List Sl) (e : Expr) (C : Addr) (fs : Option (List (Str × D))) : Prop := ∀ B O σ H (Q : XK), At X.K B O σ H ρ → (∀ H' od, Same H H' → ExcD X.K (off (O ++ B) H') od fs → Q (.ref C) od H') → ∀ (pins : List (Addr × Obj)) (s : Shared), Inv X pins σ H s →
  wpAny (model X.prog X.w) X.A (eval e X.env) (L2N.MkP X pins σ Q) X.xe s
theorem ds_raise (hc : X.calm = true) (he : DMk X ρ e C fs) (k : D'.ex C fs ρ) : DS X ρ (.Raise (some e) none pos) D' := fun B O σ H H0 De W T A s0 Cv =>
  (L2N.ps_raise (t := fun σ H Q => ∀ (pins : List (Addr × Obj)) (s : Shared), Inv X pins σ H s → wpAny (model X.prog X.w) X.A (eval e X.env) (L2N.MkP X pins σ Q) X.xe s) hc T (fun pins s σ H Q I h => h pins s I)).ss
    (he B O σ H _ A fun H1 od s1 r => Cv.ex _ _ _ _ _ _ _ k (A.grow s1) (keep_grow s0 s1) r)
/-- what is known of an own exception class without __init__, at C -/
structure Exc0 (K : PySem.W.Frag) (C : Addr) (bm : List Value) : Prop where
  q : PySem.W.excIn K C bm "ValueError.__new__" = true
  kC : PySem.W.keepIn K (.ref C) = true
  sb : PySem.W.subIn K (.ref C) (.type "BaseException") = some true
  ty : PySem.W.typeIn K (.ref C) = some (.type "type")
theorem dmk_own0 {x : Str} {bm : List Value} (F : ExcBaseFacts "ValueError" "ValueError.__new__" "ValueError.__init__" bm) (T : Exc0 X.K C bm) (gC : X.mg x = some (.ref C)) (hg : Gl X x := by rfl) (hdb : (x == ("__debug__" : Str)) = false := by decide) :
    DMk X ρ (.Call (.Name x p) [] [] pos) C none := by
  intro B O σ H Q A k pins s I
  refine wpAny_Call_Name_kw (ld_glob I hg gC ?_ hdb)
  refine PySem.W.callWith_K0 I.kIn T.kC ?_
  show wpAny _ _ (call (.ref C) []) _ _ _
  obtain ⟨bm', N, nm, qn, bs, hdct, sn, sub, ab, col, dd, k0, k1, k2, k3, k5, mN, hC, hN, hni, TT⟩ := exc_obj I.kIn T.q
  refine wpAny_call_exc_subT F TT hC hN hni (fun h' e hm => ?_) (by show 0 ≤ sizeLine; exact Nat.zero_le _)
  exact L2N.mk_of I hm (raises_own T.sb T.ty) (k H none (Same.refl _) .none) (I.hok.gone hm.new)
end
end DL
set_option Elab.async false
set_option linter.all false
set_option maxRecDepth 100000
set_option maxHeartbeats 2000000
/-! DL6: try .. except (several clauses, with a name or without), the exception as data; isinstance. -/
namespace DL
open PySem PySem.Spec PyProof.Rows L2

section
variable {X : Cx} {pins : List (Addr × Obj)} {σ : L2.St} {H : Hp} {s : Shared}
theorem pnOk_of (J : Inv X pins σ H s) {a : Addr} {B : Heap} (nb : ∀ b o, s.heap.get? b = some o → b ∉ frs X.stack → B.get? b = some o) (hB : B.get? a = none) : ∀ p ∈ X.pn ++ pins, p.1 ≠ a := fun p hp z => by
  obtain ⟨e, n, ne, nf, d⟩ := J.pin p hp
  have hst : p.1 ∉ frs X.stack := fun hm => (List.mem_cons.mp (J.stkSub _ hm)).elim ne nf
  have := nb _ _ e hst
  rw [z, hB] at this; cases this
/-- the exception in hand is tracked from here on -/
theorem Inv.track (I : Inv X pins σ H s) {a : Addr} {oe : Obj} {vs : Array Value} (ha : s.heap.get? a = some oe) (hd : oe.data = .fields vs) (na : H a = none) (nL : a ≠ X.env.locals) (h0 : X.s_0.heap.get? a = none) (hp : ∀ p ∈ X.pn ++ pins, p.1 ≠ a) :
    Inv (X.suite a (X.pn ++ pins)) [] σ (upd H a (xo oe a)) s := by
  have ne : ∀ b u, H b = some u → b ≠ a := fun b u e z => by rw [z, na] at e; cases e
  refine ⟨I.ok.suite _ _, I.os, I.bare, ⟨I.base.keep, I.base.slot, fun b o e n hx => ?_, I.base.there, fun b xs e => ?_, fun b o u e => ?_, fun b ps e => ?_⟩, I.loc, I.cell, ?_, fun x c e => ?_, fun p hq => ?_, fun b u e => ?_, I.len⟩
  · have : b ≠ a := fun z => by rw [z, h0] at e; cases e
    rw [upd_ne this]; exact I.base.free b o e n hx
  · have q := I.base.tups b xs e
    rw [upd_ne (ne _ _ q)]; exact q
  · have q := I.base.frzs b o u e
    rw [upd_ne (ne _ _ q)]; exact q
  · obtain ⟨m, q⟩ := I.base.tbls b ps e
    exact ⟨m, by rw [upd_ne (ne _ _ q)]; exact q⟩
  · rw [upd_ne (Ne.symm nL)]; exact I.free
  · obtain ⟨v, o, ho, hod⟩ := I.cell x c e
    have : c ≠ a := fun z => by rw [z, ha] at ho; cases ho; rw [hd] at hod; cases hod
    rw [upd_ne this]; exact I.freeC x c e
  · have hq' : p ∈ X.pn ++ pins := by rw [List.append_nil] at hq; exact hq
    obtain ⟨e, n, ne', nf, d⟩ := I.pin p hq'
    exact ⟨e, by rw [upd_ne (hp p hq')]; exact n, ne', nf, d⟩
  · by_cases hb : b = a
    · subst hb
      rw [upd_same] at e; cases e
      exact ⟨ha, ha, ⟨_, ha⟩, fun h1 h2 e1 k => k _ e1⟩
    · rw [upd_ne hb] at e
      exact (I.hok b u e).stay (fun c v _ q => q) (fun c q => by rw [upd_ne (ne _ _ q)]; exact q) fun c xs q => by rw [upd_ne (ne _ _ q)]; exact q
theorem Inv.untrack {a : Addr} {pn' : List (Addr × Obj)} (I : Inv (X.suite a (X.pn ++ pins)) pn' σ H s) (ok : X.Ok) : Inv X pins σ H s :=
  ⟨ok, I.os, I.bare, I.base, I.loc, I.cell, I.free, I.freeC, fun p hp => I.pin p (List.mem_append_left _ hp), I.hok, I.len⟩
end
/-- what the clauses wish of an exception -/
def wT (K : PySem.W.Frag) (Wout : WX) (D : Ends) : List (Value × (Addr → TS)) → WX
  | [] => Wout
  | (c, ts) :: r => fun cls d σ H => ∃ b, PySem.W.exmOne K cls c = some b ∧ (b = true → ∀ a oe, H a = none → Zc cls d oe → (∃ vs, oe.data = .fields vs) → ts a D σ (upd H a (xo oe a))) ∧ (b = false → wT K Wout D r cls d σ H)
def asEnds (i : Nat) (D : Ends) : Ends := { nx := fun σ' H' => D.nx (σ'.set i none) H', rt := D.rt, bk := fun σ' H' => D.bk (σ'.set i none) H', ct := fun σ' H' => D.ct (σ'.set i none) H' }
inductive HdsT (X : Cx) : List ExceptHandler → List (Value × (Addr → TS)) → Prop
  | nil : HdsT X [] []
  | one {x : Str} {c : Value} {ts : Addr → TS} {b₀ : Stmt} {suite : List Stmt} {np pos' : Pos} {hds : List ExceptHandler} {l : List (Value × (Addr → TS))} (hc : Names X x c)
      (hsu : ∀ (a : Addr) (pn : List (Addr × Obj)), PSs (X.suite a pn) (b₀ :: suite) (ts a)) (r : HdsT X hds l) : HdsT X (.ExceptHandler (some (.Name x np)) none (b₀ :: suite) pos' :: hds) ((c, ts) :: l)
  | as {x n : Str} {i : Nat} {c : Value} {ts : Addr → TS} {b₀ : Stmt} {suite : List Stmt} {np pos' : Pos} {hds : List ExceptHandler} {l : List (Value × (Addr → TS))} (hi : X.N[i]? = some n) (hln : X.env.kindOf n = some .local) (hc : Names X x c)
      (hsu : ∀ (a : Addr) (pn : List (Addr × Obj)), PSs (X.suite a pn) (b₀ :: suite) (ts a)) (r : HdsT X hds l) : HdsT X (.ExceptHandler (some (.Name x np)) (some n) (b₀ :: suite) pos' :: hds) ((c, fun a D σ H => ts a (asEnds i D) (σ.set i (some (.ref a))) H) :: l)
section
variable {X : Cx} {body : List Stmt} {h₀ : ExceptHandler} {hds : List ExceptHandler} {l : List (Value × (Addr → TS))} {pos : Pos} {tb : WX → TS} {Wout : WX}
theorem ps_tryT (hs : X.stack = X.env :: X.outer) (hf : X.env.frame = some X.env.locals) (hN : X.N.Nodup) (hex : X.ex = []) (tk : L2N.Takes X Wout)
    (hb : ∀ (W : WX) (pn : List (Addr × Obj)) (xe : Value → Shared → Prop), L2N.Takes (X.tr pn xe) W → PassesOwn (model X.prog X.w) X.A X.env xe → PSs (X.tr pn xe) body (tb W))
    (hh : HdsT X (h₀ :: hds) l) : PS X (.Try body (h₀ :: hds) [] [] pos) (fun D σ H => tb (wT X.K Wout D l) D σ H) := by
  refine ⟨fun pins s σ H D I h => ?_⟩
  have ok := I.ok
  have hfr : X.A.frames = some (X.env :: X.outer) := by rw [ok.frames, hs]
  refine wpAny_Try_except ?_
  refine wpAny_mono ((hb (wT X.K Wout D l) (X.pn ++ pins) (fun e s₁ => wpAny (model X.prog X.w) X.A (noteFrame e X.env) (fun _ s₂ => wpAny (model X.prog X.w) X.A (setFlight e none) (fun _ s₃ =>
    wpAny (model X.prog X.w) X.A (handleBy e X.env (h₀ :: hds)) (SP X pins D) X.xe s₃) X.xe s₂) X.xe s₁) (fun u s' xx => ?_) PassesOwn.looking).run [] s σ H D (I.toTry _) h) (fun f s1 hsp => ?_) (fun e s1 he => he)
  · obtain ⟨a, B, sI, pins', σ', H', cls, d, rfl, J', nb, up, sky, na, os, ag, w⟩ := xx
    have J : Inv X pins σ' H' sI := J'.ofTry ok
    have sky' : Sky B (X.env :: X.outer) a (L2N.Zn cls d) X.env.locals s'.heap := by rw [← hs]; exact sky
    show wpAny (model X.prog X.w) X.A (noteFrame (.ref a) X.env) _ _ _
    refine L2N.Sky.land L2N.Zn.steady hfr hf sky' fun h3 fl3 up3 => ?_
    have J3 : Inv X pins σ' H' { s' with heap := h3 } := J.landed nb fl3.1 (up.trans up3) os ag
    obtain ⟨oe3, vs3, he3, hz3, hd3⟩ := fl3.there
    have notFr : ∀ {h : Heap} {o : Obj} {vs : Array Value}, h.FunFrames B (X.env :: X.outer) → h.get? a = some o → o.data = .fields vs → a ∉ frs (X.env :: X.outer) := fun {h o vs} ff e dd hm => by
      obtain ⟨_, o', e', hnf⟩ := ff.mem hm
      rw [e] at e'; cases e'
      exact hnf _ dd
    have nfr := notFr fl3.2.2.1 he3 hd3
    have nL : a ≠ X.env.locals := fun z => nfr (List.mem_filterMap.mpr ⟨X.env, List.mem_cons_self, by rw [hf, z]⟩)
    have nF : a ∉ X.fs := fun hm => by
      obtain ⟨e, he, q⟩ := List.mem_filterMap.mp hm
      exact nfr (List.mem_filterMap.mpr ⟨e, List.mem_cons_of_mem _ he, q⟩)
    have hpn := pnOk_of J nb fl3.2.1
    have h0 : X.s_0.heap.get? a = none := by
      cases q : X.s_0.heap.get? a with
      | none => rfl
      | some o =>
        obtain ⟨o', e1⟩ := J.base.there a o q (by rw [hex]; intro z; cases z)
        have := nb a o' e1 (by rw [hs]; exact nfr)
        rw [fl3.2.1] at this; cases this
    have S3 := J3.suite he3 hd3 na nL nF
    have go : ∀ {hds' : List ExceptHandler} {l' : List (Value × (Addr → TS))}, HdsT X hds' l' → wT X.K Wout D l' cls d σ' H' →
        wpAny (model X.prog X.w) X.A (handleBy (.ref a) X.env hds') (SP X pins D) X.xe { s' with heap := h3 } := by
      intro hds' l' hk
      induction hk with
      | nil =>
        intro w
        refine wpAny_handleBy_nil ?_
        obtain ⟨k1, k2, k3, oe, vs, T, oT, ts', he, hz, hd, h1, hr⟩ := id fl3
        unfold PySem.passOn
        refine wpAny_bind (wpAny_field he hd h1 ?_)
        rw [if_neg (show ¬ ((Value.ref T == Value.none) = true) from by simp)]
        have fin : wpAny (model X.prog X.w) X.A (setFlight (.ref a) X.env.frame) (fun _ s4 => wpAny (model X.prog X.w) X.A (throw (.ref a) : Sem Flow) (SP X pins D) X.xe s4) X.xe { s' with heap := h3 } := by
          rw [hf]
          refine HandSPX.setFlight_upZ fl3 fun h4 hh4 up4 => wpAny_throw (tk _ _ ?_)
          exact ⟨a, B, sI, pins, σ', H', cls, d, rfl, J, nb, (up.trans up3).trans up4, .inr (.inr (by rw [hs]; exact hh4)), na, os, ag, w⟩
        first
          | exact wpAny_bind (wpAny_pure (wpAny_bind fin))
          | exact wpAny_bind fin
      | @one x c ts b₀ suite np pos' hds2 l2 hc hsu r ih =>
        intro w
        obtain ⟨b, hb1, hyes, hno⟩ := w
        refine wpAny_handleBy_cons (codeAny_handlers_test ?_) (by intro q; cases q)
        have LT : PySem.W.Looks (model X.prog X.w) h3 (typeOf (.ref a)) cls := fun A Q E s k q => wpAny_typeOf_ref (k _ _ he3) (by rw [hz3.1]; exact q)
        have LM := PySem.W.exm_one (M := model X.prog X.w) (J3.kIn) LT hb1
        have test : ∀ {Q : Value → Shared → Prop} {E : Value → Shared → Prop}, Q c { s' with heap := h3 } → wpAny (model X.prog X.w) (X.A.mark (some (.ref a))) (eval (.Name x np) X.env) Q E { s' with heap := h3 } := fun {Q E} q => by
          obtain ⟨hg, hdbg, hm | ⟨hm, hv, hnn⟩⟩ := hc
          · exact ld_glob (X := X.suite a ((a, oe3) :: (X.pn ++ pins))) S3 hg hm q hdbg
          · exact ld_blt (X := X.suite a ((a, oe3) :: (X.pn ++ pins))) S3 hg hm hv q hnn hdbg
        refine test (LM.here ?_)
        cases b with
        | true =>
          refine codeAny_handlers_suite ?_
          refine HandSPX.lands_againZ fl3 fun h4 fl4 up4 => ?_
          have J4 : Inv X pins σ' H' { s' with heap := h4 } := J.landed nb fl4.1 ((up.trans up3).trans up4) os ag
          obtain ⟨oe4, vs4, he4, hz4, hd4⟩ := fl4.there
          have S4 := Inv.track J4 he4 hd4 na nL h0 hpn
          refine wpAny_mono ((hsu a (X.pn ++ pins)).run [] _ _ _ _ S4 (hyes rfl a oe4 na hz4.zc ⟨_, hd4⟩)) (fun f s6 hsp => ?_) (fun _ _ z => False.elim z)
          cases f with
          | next =>
            obtain ⟨σ6, H6, S6, q6⟩ := hsp
            exact ⟨_, _, Inv.untrack S6 ok, q6⟩
          | brk =>
            obtain ⟨σ6, H6, S6, q6⟩ := hsp
            exact ⟨_, _, Inv.untrack S6 ok, q6⟩
          | cont =>
            obtain ⟨σ6, H6, S6, q6⟩ := hsp
            exact ⟨_, _, Inv.untrack S6 ok, q6⟩
          | ret u =>
            obtain ⟨v6, σ6, H6, S6, r6, q6⟩ := hsp
            exact ⟨_, _, _, Inv.untrack S6 ok, r6, q6⟩
        | false =>
          show wpAny _ X.A (handleBy (.ref a) X.env hds2) _ _ _
          exact ih (hno rfl)
      | @as x n i c ts b₀ suite np pos' hds2 l2 hi hln hc hsu r ih =>
        intro w
        obtain ⟨b, hb1, hyes, hno⟩ := w
        have hloc : Loc X.env.scope n := .inl hln
        refine wpAny_handleBy_cons (codeAny_handlers_test ?_) (by intro q; cases q)
        have LT : PySem.W.Looks (model X.prog X.w) h3 (typeOf (.ref a)) cls := fun A Q E s k q => wpAny_typeOf_ref (k _ _ he3) (by rw [hz3.1]; exact q)
        have LM := PySem.W.exm_one (M := model X.prog X.w) (J3.kIn) LT hb1
        have test : ∀ {Q : Value → Shared → Prop} {E : Value → Shared → Prop}, Q c { s' with heap := h3 } → wpAny (model X.prog X.w) (X.A.mark (some (.ref a))) (eval (.Name x np) X.env) Q E { s' with heap := h3 } := fun {Q E} q => by
          obtain ⟨hg, hdbg, hm | ⟨hm, hv, hnn⟩⟩ := hc
          · exact ld_glob (X := X.suite a ((a, oe3) :: (X.pn ++ pins))) S3 hg hm q hdbg
          · exact ld_blt (X := X.suite a ((a, oe3) :: (X.pn ++ pins))) S3 hg hm hv q hnn hdbg
        refine test (LM.here ?_)
        cases b with
        | true =>
          refine codeAny_handlers_suite_as ?_
          refine HandSPX.lands_againZ fl3 fun h4 fl4 up4 => ?_
          have J4 : Inv X pins σ' H' { s' with heap := h4 } := J.landed nb fl4.1 ((up.trans up3).trans up4) os ag
          obtain ⟨oe4, vs4, he4, hz4, hd4⟩ := fl4.there
          have S4 := Inv.track J4 he4 hd4 na nL h0 hpn
          refine store_ok (X := X.suite a (X.pn ++ pins)) (v := .ref a) S4 hN hi hloc rfl (fun s5 S5 => ?_) (.inr hln)
          refine wpAny_mono ((hsu a (X.pn ++ pins)).run [] s5 _ _ _ S5 (hyes rfl a oe4 na hz4.zc ⟨_, hd4⟩)) (fun f s6 hsp => ?_) (fun _ _ z => False.elim z)
          have end_ : ∀ {σ6 : L2.St} {H6 : Hp} {Q : Shared → Prop}, Inv (X.suite a (X.pn ++ pins)) [] σ6 H6 s6 → (∀ s7, Inv X pins (σ6.set i none) H6 s7 → Q s7) →
              wpAny (model X.prog X.w) X.A (do bindName X.env n .none; unbindBehindTheSuite X.env n pos') (fun _ s7 => Q s7) X.xe s6 := fun {σ6 H6 Q} S6 hq => gone_ok (Inv.untrack S6 ok) hN hi hln hq
          cases f with
          | next =>
            obtain ⟨σ6, H6, S6, q6⟩ := hsp
            exact end_ S6 fun s7 J7 => ⟨_, _, J7, q6⟩
          | brk =>
            obtain ⟨σ6, H6, S6, q6⟩ := hsp
            exact end_ S6 fun s7 J7 => ⟨_, _, J7, q6⟩
          | cont =>
            obtain ⟨σ6, H6, S6, q6⟩ := hsp
            exact end_ S6 fun s7 J7 => ⟨_, _, J7, q6⟩
          | ret u =>
            obtain ⟨v6, σ6, H6, S6, r6, q6⟩ := hsp
            exact end_ S6 fun s7 J7 => ⟨_, _, _, J7, r6, q6⟩
        | false =>
          show wpAny _ X.A (handleBy (.ref a) X.env hds2) _ _ _
          exact ih (hno rfl)
    exact go hh w
  · cases f with
    | next =>
      obtain ⟨σ', H', J', q⟩ := hsp
      exact wpAny_execs_nil ⟨σ', H', J'.ofTry ok, q⟩
    | brk =>
      obtain ⟨σ', H', J', q⟩ := hsp
      exact ⟨σ', H', J'.ofTry ok, q⟩
    | cont =>
      obtain ⟨σ', H', J', q⟩ := hsp
      exact ⟨σ', H', J'.ofTry ok, q⟩
    | ret u =>
      obtain ⟨v, σ', H', J', r, q⟩ := hsp
      exact ⟨v, σ', H', J'.ofTry ok, r, q⟩
end
end DL
set_option Elab.async false
set_option linter.all false
set_option maxRecDepth 100000
set_option maxHeartbeats 2000000
/-! DL7: try by data; isinstance by data. -/
namespace DL
open PySem PySem.Spec PyProof.Rows L2

theorem Slots.clrO {K : PySem.W.Frag} {H G : Hp} {σ : L2.St} {ρ : List Sl} {O : List Addr} (h : Slots K H G σ ρ O) : ∀ (i : Nat), ∃ O', (∀ b ∈ O', b ∈ O) ∧ Slots K H G (σ.set i none) (ρ.set i .emp) O' := by
  induction h with
  | nil => intro i; exact ⟨[], fun _ h => h, .nil⟩
  | emp h ih =>
    intro i
    cases i with
    | zero => exact ⟨_, fun _ h => h, .emp h⟩
    | succ i => obtain ⟨O', h1, h2⟩ := ih i; exact ⟨O', h1, .emp h2⟩
  | dat r' h ih =>
    intro i
    cases i with
    | zero => exact ⟨_, fun _ h => h, .emp h⟩
    | succ i => obtain ⟨O', h1, h2⟩ := ih i; exact ⟨O', h1, .dat r' h2⟩
  | own e m n h ih =>
    intro i
    cases i with
    | zero => exact ⟨_, fun b hb => List.mem_cons_of_mem _ hb, .emp h⟩
    | succ i =>
      obtain ⟨O', h1, h2⟩ := ih i
      refine ⟨_ :: O', fun b hb => ?_, .own e m (fun q => n (h1 _ q)) h2⟩
      rcases List.mem_cons.mp hb with rfl | hb
      · exact List.mem_cons_self
      · exact List.mem_cons_of_mem _ (h1 b hb)
/-- the clauses: class, the name's slot, suite -/
inductive HS (X : Cx) : List ExceptHandler → List (Value × Option Nat × List Stmt) → Prop
  | nil : HS X [] []
  | one {x : Str} {c : Value} {b₀ : Stmt} {suite : List Stmt} {np pos' : Pos} {hds : List ExceptHandler} {l : List (Value × Option Nat × List Stmt)} (hc : Names X x c) (r : HS X hds l) :
      HS X (.ExceptHandler (some (.Name x np)) none (b₀ :: suite) pos' :: hds) ((c, none, b₀ :: suite) :: l)
  | as {x n : Str} {i : Nat} {c : Value} {b₀ : Stmt} {suite : List Stmt} {np pos' : Pos} {hds : List ExceptHandler} {l : List (Value × Option Nat × List Stmt)} (hi : X.N[i]? = some n) (hln : X.env.kindOf n = some .local) (hc : Names X x c) (r : HS X hds l) :
      HS X (.ExceptHandler (some (.Name x np)) (some n) (b₀ :: suite) pos' :: hds) ((c, some i, b₀ :: suite) :: l)
def DEnds.noex (D : DEnds) : DEnds := { D with ex := fun _ _ _ => False }
def DEnds.as (i : Nat) (D : DEnds) : DEnds := { nx := fun ρ => D.nx (ρ.set i .emp), rt := D.rt, rm := D.rm, bk := fun ρ => D.bk (ρ.set i .emp), ct := fun ρ => D.ct (ρ.set i .emp) }
/-- what the clauses do with an exception -/
def HD (X : Cx) (D : DEnds) : List (Value × Option Nat × List Stmt) → Addr → Option (List (Str × DL.D)) → List Sl → Prop
  | [] => D.ex
  | (c, none, su) :: l => fun C fs ρ => ∃ b, PySem.W.exmOne X.K (.ref C) c = some b ∧ (b = true → ∀ a pn, DSs (X.suite a pn) ρ su D.noex) ∧ (b = false → HD X D l C fs ρ)
  | (c, some i, su) :: l => fun C fs ρ => ∃ b, PySem.W.exmOne X.K (.ref C) c = some b ∧ (b = true → ∀ a pn, DSs (X.suite a pn) (ρ.set i (.dat (.exc C fs))) su (D.as i)) ∧ (b = false → HD X D l C fs ρ)
section
variable {X : Cx} {ρ : List Sl} {body : List Stmt} {h₀ : ExceptHandler} {hds : List ExceptHandler} {l : List (Value × Option Nat × List Stmt)} {pos : Pos} {D : DEnds}
def rdOf (X : Cx) : List (Value × Option Nat × List Stmt) → List (Value × (Addr → TS))
  | [] => []
  | (c, none, su) :: l => (c, fun a D σ H => ∀ pn, SSs (X.suite a pn) su D σ H) :: rdOf X l
  | (c, some i, su) :: l => (c, fun a D σ H => ∀ pn, SSs (X.suite a pn) su (asEnds i D) (σ.set i (some (.ref a))) H) :: rdOf X l
theorem HS.hdsT (h : HS X hds l) : HdsT X hds (rdOf X l) := by
  induction h with
  | nil => exact .nil
  | one hc _ ih => exact .one hc (fun a pn => ⟨fun pins s σ H D I h => (h pn).run pins s I⟩) ih
  | @as x n i c b₀ suite np pos' hds l hi hln hc _ ih => exact .as (ts := fun a D σ H => ∀ pn, SSs (X.suite a pn) (b₀ :: suite) D σ H) hi hln hc (fun a pn => ⟨fun pins s σ H D I h => (h pn).run pins s I⟩) ih
theorem ds_try (hs : X.stack = X.env :: X.outer) (hf : X.env.frame = some X.env.locals) (hN : X.N.Nodup) (hex : X.ex = []) (hh : HS X (h₀ :: hds) l)
    (hb : ∀ pn xe, PassesOwn (model X.prog X.w) X.A X.env xe → DSs (X.tr pn xe) ρ body { D with ex := HD X D l }) : DS X ρ (.Try body (h₀ :: hds) [] [] pos) D := fun B O σ H H0 De W T A s0 Cv => by
  refine (ps_tryT (tb := fun W' De σ H => ∀ pn xe, L2N.Takes (X.tr pn xe) W' → PassesOwn (model X.prog X.w) X.A X.env xe → SSs (X.tr pn xe) body De σ H) hs hf hN hex T (fun W' pn xe T' P => ⟨fun pins s σ H D I h => (h pn xe T' P).run pins s I⟩) hh.hdsT).ss ?_
  intro pn xe T' P
  refine hb pn xe P B O σ H H0 De _ T' A s0 ⟨Cv.nx, Cv.rt, Cv.rm, Cv.bk, Cv.ct, fun C fs ρ' O' σ' H' od hD A' s' r => ?_⟩
  have go : ∀ l, HD X D l C fs ρ' → wT X.K W De (rdOf X l) (.ref C) od σ' H' := by
    intro l
    induction l with
    | nil => exact fun hD => Cv.ex _ _ _ _ _ _ _ hD A' s' r
    | cons q l ih =>
      obtain ⟨c, o, su⟩ := q
      cases o with
      | none =>
        rintro ⟨b, e, h1, h2⟩
        refine ⟨b, e, fun hb a oe na hz hfd pn => ?_, fun hb => ih (h2 hb)⟩
        refine h1 hb a pn B O' σ' _ H0 De (fun _ _ _ _ => False) takes_noneN (A'.grow (same_upd na)) (keep_grow s' (same_upd na)) ⟨Cv.nx, Cv.rt, Cv.rm, Cv.bk, Cv.ct, fun C fs ρ O σ H od h => h.elim⟩
      | some i =>
        rintro ⟨b, e, h1, h2⟩
        refine ⟨b, e, fun hb a oe na hz hfd pn => ?_, fun hb => ih (h2 hb)⟩
        have A2 := A'.grow (same_upd (o := xo oe a) na)
        have haZ : a ∉ O' ++ B := A'.all.new na
        have ha : off (O' ++ B) (upd H' a (xo oe a)) a = some (xo oe a) := by rw [off_ne haZ]; exact upd_same
        have hdr : DR X.K (off (O' ++ B) (upd H' a (xo oe a))) (.ref a) (.exc C fs) := by
          cases r with
          | none => exact .exc0 ha hz.1 hz.2 hfd
          | some e r => exact .excD ha hz.1 hz.2 hfd (off_same (same_upd na) _ _ e) (r.mono (off_same (same_upd na)))
        obtain ⟨O2, hO, hS⟩ := A2.sl.set hdr i
        refine h1 hb a pn B O2 _ _ H0 (asEnds i De) (fun _ _ _ _ => False) takes_noneN (A2.sub hO hS) ((keep_grow s' (same_upd na)).trans (off_sub hO)) ⟨fun ρ O σ H h A q => ?_, Cv.rt, Cv.rm, fun ρ O σ H h A q => ?_, fun ρ O σ H h A q => ?_, fun C fs ρ O σ H od h => h.elim⟩
        · obtain ⟨O3, h3, S3⟩ := A.sl.clrO i
          exact Cv.nx _ O3 _ _ h (A.sub h3 S3) (q.trans (off_sub h3))
        · obtain ⟨O3, h3, S3⟩ := A.sl.clrO i
          exact Cv.bk _ O3 _ _ h (A.sub h3 S3) (q.trans (off_sub h3))
        · obtain ⟨O3, h3, S3⟩ := A.sl.clrO i
          exact Cv.ct _ O3 _ _ h (A.sub h3 S3) (q.trans (off_sub h3))
  exact go l hD

/-! ### isinstance -/
variable {e a b : Expr} {d : DL.D} {p : Pos}
theorem de_bltn {x : Str} {n : String} (hg : Gl X x) (hm : X.mg x = none) (hv : bootBuiltins x = some (.type n)) (hn : x ≠ "__name__" := by decide) (hd : (x == ("__debug__" : Str)) = false := by decide) : DE X ρ (.Name x pos) (.ty n) := fun B O σ H Q A k =>
  (pe_bltn hg hm hv (v := .ty n) rfl hn hd).se (k _ _ (Same.refl _) (.ty n))
theorem de_cls {x : Str} {C : Addr} (hm : X.mg x = some (.ref C)) (hg : Gl X x := by rfl) (hd : (x == ("__debug__" : Str)) = false := by decide) : DE X ρ (.Name x pos) (.opq C) := de_glob hg hm (v := .ref C) rfl (fun _ => .opq C) hd
/-- the type of data -/
inductive TyD : DL.D → String → Prop
  | non : TyD .non "NoneType"
  | bl (b : Bool) : TyD (.bl b) "bool"
  | int (i : Int) : TyD (.int i) "int"
  | str (s : Str) : TyD (.str s) "str"
  | lst (xs : List DL.D) : TyD (.lst xs) "list"
  | tup (xs : List DL.D) : TyD (.tup xs) "tuple"
  | dic (kvs : List (Key × DL.D)) : TyD (.dic kvs) "dict"
theorem TyD.tyx {K : PySem.W.Frag} {H : Hp} {v : V} {n : String} (t : TyD d n) (r : DR K H v d) : TyX K H v (.type n) := by
  cases t with
  | non => cases r; exact .base .non
  | bl b => cases r; exact .base (.bl _)
  | int i => cases r; exact .base (.int _)
  | str s => cases r; exact .base (.str _)
  | lst xs =>
    cases r with
    | lst h _ =>
      rcases h with (h | ⟨o, h⟩) | ⟨o, its, n, h, hc, _⟩
      · exact .base (.lst h)
      · exact .base (.frz h)
      · exact .kList h hc
  | tup xs =>
    cases r with
    | tup h _ =>
      rcases h with (h | ⟨o, h⟩) | ⟨o, its, n, h, hc, _⟩
      · exact .base (.tup h)
      · exact .fTuple h
      · exact .kTuple h hc
  | dic kvs =>
    cases r with
    | dic h _ => exact .base (.dK h)
theorem de_isi {n m : String} {z : Bool} (hm : X.mg "isinstance" = none) (h : DE X ρ a d) (h' : DE X ρ b (.ty m)) (t : TyD d n) (hk : PySem.W.kitOne X.K (.type n) (.type m) = some z) (hg : Gl X "isinstance" := by rfl)
    (he : starEach (a :: [b]) X.env = (false, eval a X.env) :: starEach [b] X.env := by rfl) (he2 : starEach (b :: []) X.env = (false, eval b X.env) :: starEach [] X.env := by rfl) (hpl : (backTo pos (starEach [b] X.env)).any (·.1) = false := by rfl) :
    DE X ρ (.Call (.Name "isinstance" p) [a, b] [] pos) (.bl z) :=
  de_callB call_isi hg hm (by decide +kernel) (da_cons h (da_cons h' da_nil he2) he) (fun Z H vs Q r _ k => by
    obtain ⟨v, w, rfl, r1, r2⟩ := r.inv2
    cases r2
    exact ⟨_, _, _, _, _, rfl, .ty _, t.tyx (dr_full r1), hk, k _ _ (Same.refl _) (.bl _)⟩) (he := he) (hpl := hpl)
/-- of an exception -/
def rIsX (K : PySem.W.Frag) (D : Addr) : List V → Hp → VK → Prop := fun xs H Q => ∃ (a : Addr) (oe : Obj) (c : V) (cv : Value) (z : Bool), xs = [.ref a, c] ∧ H a = some (xo oe a) ∧ Zc (.ref D) none oe ∧ (∃ vs, oe.data = .fields vs) ∧ ClsV c cv ∧ PySem.W.kitOne K (.ref D) cv = some z ∧ Q (.bl z) H
theorem call_isX {D : Addr} (C : ExcC X.K D) : CallR X (.builtin "isinstance") (rIsX X.K D) := by
  intro pins s σ H xs us Q I r h
  obtain ⟨a, oe, c, cv, z, rfl, hH, hz, hf, hc, e, q⟩ := h
  obtain ⟨u1, u2, rfl, r1, r2⟩ := vals2 r
  cases (show u1 = Value.ref a from r1)
  have e2 := hc.eq r2
  subst e2
  have hget : s.heap.get? a = some oe := (I.hok a _ hH).1
  obtain ⟨vs, hv⟩ := hf
  have J : PySem.W.InstAt s.heap a oe D none := by
    obtain ⟨oc, od, oda, osl⟩ := oe
    obtain ⟨h1, h2⟩ := hz
    dsimp only at h1 h2 hv
    subst h1 h2 hv
    exact ⟨hget, rfl, rfl, trivial⟩
  exact PySem.W.kia_one (PySem.W.handS_kitx_exc C.hg C.hk C.hs C.hd C.ha C.hn C.ht C.hm) I.kIn J e (fun z => nomatch z) fun tk => ⟨.bl z, H, I.kept (t' := tk) fun _ _ z => z, rfl, q⟩
theorem de_isX {D : Addr} {cd : DL.D} {cv : Value} {z : Bool} (C : ExcC X.K D) (hm : X.mg "isinstance" = none) (h : DE X ρ a (.exc D none)) (h' : DE X ρ b cd) (hcd : (∃ n, cd = .ty n ∧ cv = .type n) ∨ (∃ E, cd = .opq E ∧ cv = .ref E)) (hk : PySem.W.kitOne X.K (.ref D) cv = some z)
    (hg : Gl X "isinstance" := by rfl)
    (he : starEach (a :: [b]) X.env = (false, eval a X.env) :: starEach [b] X.env := by rfl) (he2 : starEach (b :: []) X.env = (false, eval b X.env) :: starEach [] X.env := by rfl) (hpl : (backTo pos (starEach [b] X.env)).any (·.1) = false := by rfl) :
    DE X ρ (.Call (.Name "isinstance" p) [a, b] [] pos) (.bl z) :=
  de_callB (call_isX C) hg hm (by decide +kernel) (da_cons h (da_cons h' da_nil he2) he) (fun Z H vs Q r _ k => by
    obtain ⟨v, w, rfl, r1, r2⟩ := r.inv2
    obtain ⟨a', oe, rfl, g1, g2, g3⟩ : ∃ a oe, v = .ref a ∧ H a = some (xo oe a) ∧ Zc (.ref D) none oe ∧ ∃ vs, oe.data = .fields vs := by
      cases dr_full r1 with
      | exc0 h1 h2 h3 h4 => exact ⟨_, _, rfl, h1, ⟨h2, h3⟩, h4⟩
    rcases hcd with ⟨n, rfl, rfl⟩ | ⟨E, rfl, rfl⟩
    · cases r2; exact ⟨_, _, _, _, _, rfl, g1, g2, g3, .ty _, hk, k _ _ (Same.refl _) (.bl _)⟩
    · cases r2; exact ⟨_, _, _, _, _, rfl, g1, g2, g3, .own _, hk, k _ _ (Same.refl _) (.bl _)⟩) (he := he) (hpl := hpl)
end
end DL
set_option Elab.async false
set_option linter.all false
set_option maxRecDepth 100000
set_option maxHeartbeats 2000000
/-! DL8: loops by kind; sugar. -/
namespace DL
open PySem PySem.Spec PyProof.Rows L2

theorem Up.intro {M : List Sl → Prop} {ρ ρ' : List Sl} (h : M ρ') (l : Le ρ ρ') : Up M ρ := ⟨ρ', l, h⟩
section
variable {X : Cx} {ρ : List Sl} {a b it : Expr} {body : List Stmt} {items : List D} {pos p pos' : Pos} {D : DEnds}
/-- for x in range(n) -/
theorem ds_range1 (i : Nat) (n : Nat) {x : Str} {z : Int} (Iv : Nat → List Sl → Prop) (hN : X.N.Nodup) (hm : X.mg "range" = none) (hxe : PassesOwn (model X.prog X.w) X.A X.env X.xe) (hc : X.calm = true) (h : DE X ρ a (.int z)) (hz : z = (n : Int)) (hn : n < 2 ^ 62)
    (h0 : Up (Iv 0) ρ) (turn : ∀ (k : Nat) ρ', k < n → Iv k ρ' → (∀ m, ρ'[i]? ≠ some (.own m)) ∧ DSs X (ρ'.set i (.dat (.int (k : Int)))) body { D with nx := Up (Iv (k + 1)), bk := D.nx, ct := Up (Iv (k + 1)) })
    (done : ∀ ρ', Iv n ρ' → D.nx ρ') (hi : X.N[i]? = some x := by rfl) (hl : Loc X.env.scope x := by first | exact .inl rfl | exact .inr rfl) (hf : X.fn x = true ∨ X.env.scope.names.lookup x = some .local := by first | exact .inl rfl | exact .inr rfl)
    (hg : Gl X "range" := by rfl) (hs : starEach [a] X.env = [(false, eval a X.env)] := by rfl) (hfs : ∀ x, foldedSetIterable (.Call (.Name "range" p) [a] [] pos') X.env x = pure x := by intro _; rfl) :
    DS X ρ (.For (.Name x pos) (.Call (.Name "range" p) [a] [] pos') body [] pos'') D := by
  subst hz
  have e : ((n : Int)).toNat = n := by omega
  refine ds_for Iv hxe hc (di_range1 hm h (by omega) (by omega) hg hs) h0 (fun k y ρ' hy hI => ?_) (fun ρ' hI => done ρ' ?_) hfs
  · obtain ⟨hk, rfl⟩ := rangeD_get hy
    rw [e] at hk
    obtain ⟨h1, h2⟩ := turn k ρ' hk hI
    rw [Int.zero_add]
    exact ⟨_, _, dg_name i hN h1 hi hl hf, h2⟩
  · rw [rangeD_len, e] at hI; exact hI
/-- for x in range(m, n) -/
theorem ds_range2 (i : Nat) (n : Nat) {x : Str} {lo hi' : Int} (Iv : Nat → List Sl → Prop) (hN : X.N.Nodup) (hm : X.mg "range" = none) (hxe : PassesOwn (model X.prog X.w) X.A X.env X.xe) (hc : X.calm = true) (h : DE X ρ a (.int lo)) (h' : DE X ρ b (.int hi')) (hz : (hi' - lo).toNat = n) (hb : -(2 ^ 62) ≤ lo ∧ lo < 2 ^ 62 ∧ -(2 ^ 62) ≤ hi' ∧ hi' < 2 ^ 62)
    (h0 : Up (Iv 0) ρ) (turn : ∀ (k : Nat) ρ', k < n → Iv k ρ' → (∀ m, ρ'[i]? ≠ some (.own m)) ∧ DSs X (ρ'.set i (.dat (.int (lo + (k : Int))))) body { D with nx := Up (Iv (k + 1)), bk := D.nx, ct := Up (Iv (k + 1)) })
    (done : ∀ ρ', Iv n ρ' → D.nx ρ') (hi : X.N[i]? = some x := by rfl) (hl : Loc X.env.scope x := by first | exact .inl rfl | exact .inr rfl) (hf : X.fn x = true ∨ X.env.scope.names.lookup x = some .local := by first | exact .inl rfl | exact .inr rfl)
    (hg : Gl X "range" := by rfl) (hs : starEach [a, b] X.env = [(false, eval a X.env), (false, eval b X.env)] := by rfl) (hs2 : starEach [b] X.env = [(false, eval b X.env)] := by rfl) (hfs : ∀ x, foldedSetIterable (.Call (.Name "range" p) [a, b] [] pos') X.env x = pure x := by intro _; rfl) :
    DS X ρ (.For (.Name x pos) (.Call (.Name "range" p) [a, b] [] pos') body [] pos'') D := by
  refine ds_for Iv hxe hc (di_range2 hm h h' hb hg hs hs2) h0 (fun k y ρ' hy hI => ?_) (fun ρ' hI => done ρ' ?_) hfs
  · obtain ⟨hk, rfl⟩ := rangeD_get hy
    rw [hz] at hk
    obtain ⟨h1, h2⟩ := turn k ρ' hk hI
    exact ⟨_, _, dg_name i hN h1 hi hl hf, h2⟩
  · rw [rangeD_len, hz] at hI; exact hI
/-- for x in a list -/
theorem ds_each (i : Nat) {x : Str} (Iv : Nat → List Sl → Prop) (hN : X.N.Nodup) (hxe : PassesOwn (model X.prog X.w) X.A X.env X.xe) (hc : X.calm = true) (h : DE X ρ it (.lst items))
    (h0 : Up (Iv 0) ρ) (turn : ∀ (k : Nat) y ρ', items[k]? = some y → Iv k ρ' → (∀ m, ρ'[i]? ≠ some (.own m)) ∧ DSs X (ρ'.set i (.dat y)) body { D with nx := Up (Iv (k + 1)), bk := D.nx, ct := Up (Iv (k + 1)) })
    (done : ∀ ρ', Iv items.length ρ' → D.nx ρ') (hi : X.N[i]? = some x := by rfl) (hl : Loc X.env.scope x := by first | exact .inl rfl | exact .inr rfl) (hf : X.fn x = true ∨ X.env.scope.names.lookup x = some .local := by first | exact .inl rfl | exact .inr rfl)
    (hfs : ∀ x, foldedSetIterable it X.env x = pure x := by intro _; rfl) :
    DS X ρ (.For (.Name x pos) it body [] pos'') D :=
  ds_for Iv hxe hc (di_list h) h0 (fun k y ρ' hy hI => by
    obtain ⟨h1, h2⟩ := turn k y ρ' hy hI
    exact ⟨_, _, dg_name i hN h1 hi hl hf, h2⟩) done hfs
/-- a comprehension over one name -/
theorem df_lc1 {elt : Expr} {ifs : List Expr} {scope : Scope} (i : Nat) {x : Str} {α : Type} {items : List α} {f : α → DL.D} (t : α → Bool) (g : α → DL.D) (hc : X.calm = true) (hN : X.N.Nodup) (hi : DI X ρ (.Name x p) it (items.map f)) (ok : blkC X.N X.env.scope scope [(x, i)] = true) (hsz : items.length ≤ sizeLine)
    (hel : ∀ y ∈ items, ∀ (s : Shared) (H : Hp) (C : Addr) (cl : List (Str × Addr)) (fp : List Addr), DTs (X.blk s H scope (compEnvC scope cl C X.env) fp) (ρ.set i (.dat (f y))) ifs (t y) ∧ (t y = true → DE (X.blk s H scope (compEnvC scope cl C X.env) fp) (ρ.set i (.dat (f y))) elt (g y)))
    (hw : ∀ m, ρ[i]? ≠ some (.own m) := by intro m h; cases h) (hxi : X.N[i]? = some x := by rfl) (hl : Loc (relabel scope X.env) x := by first | exact .inl rfl | exact .inr rfl) (hf : (scope.names.lookup x == some NameKind.cell) = true ∨ (relabel scope X.env).names.lookup x = some .local := by first | exact .inr rfl | exact .inl rfl) (hfs : ∀ x, foldedSetIterable it X.env x = pure x := by intro _; rfl) :
    DF X ρ (.ListComp elt [⟨.Name x p, it, ifs, 0⟩] scope pos) (.lst ((items.filter t).map g)) := by
  refine df_lc [(x, i)] t g hc hN hi (blkOk_by ok) hsz (fun y hy => ⟨[i], ρ.set i (.dat (f y)), by simp, fun s H C cl fp => ⟨?_, hel y hy s H C cl fp⟩⟩) (by intro j hj m h; simp at hj; subst hj; exact hw m h) hfs
  have h := dg_name (X := X.blk s H scope (compEnvC scope cl C X.env) fp) (ρ := wipeS ρ [i]) (d := f y) (pos := p) i hN (by
    intro m h
    unfold wipeS wipeS at h
    by_cases hlt : i < ρ.length
    · rw [List.getElem?_set_self hlt] at h; cases h
    · rw [List.getElem?_eq_none (by rw [List.length_set]; omega)] at h; cases h) hxi hl hf
  have e : (wipeS ρ [i]).set i (.dat (f y)) = ρ.set i (.dat (f y)) := by unfold wipeS wipeS; rw [List.set_set]
  rw [e] at h
  exact h
theorem ds_setLc1 {elt : Expr} {ifs : List Expr} {scope : Scope} {y' : Str} {py spos : Pos} (j : Nat) (i : Nat) {x : Str} {α : Type} {items : List α} {f : α → DL.D} (t : α → Bool) (g : α → DL.D) (hc : X.calm = true) (hN : X.N.Nodup) (hi : DI X ρ (.Name x p) it (items.map f)) (ok : blkC X.N X.env.scope scope [(x, i)] = true) (hsz : items.length ≤ sizeLine)
    (hel : ∀ y ∈ items, ∀ (s : Shared) (H : Hp) (C : Addr) (cl : List (Str × Addr)) (fp : List Addr), DTs (X.blk s H scope (compEnvC scope cl C X.env) fp) (ρ.set i (.dat (f y))) ifs (t y) ∧ (t y = true → DE (X.blk s H scope (compEnvC scope cl C X.env) fp) (ρ.set i (.dat (f y))) elt (g y)))
    (k : D.nx (ρ.set j (.own (.lst ((items.filter t).map g)))))
    (hlt : j < ρ.length := by first | decide | simp [startS]) (hy : X.N[j]? = some y' := by rfl) (hyl : X.env.scope.names.lookup y' = some .local := by rfl) (hsw : swapsWith (.ListComp elt [⟨.Name x p, it, ifs, 0⟩] scope pos) (some (.Name y' py)) spos.line X.env = pure true := by exact sw_true rfl rfl rfl (by decide +kernel))
    (hw : ∀ m, ρ[i]? ≠ some (.own m) := by intro m h; cases h) (hxi : X.N[i]? = some x := by rfl) (hl : Loc (relabel scope X.env) x := by first | exact .inl rfl | exact .inr rfl) (hf : (scope.names.lookup x == some NameKind.cell) = true ∨ (relabel scope X.env).names.lookup x = some .local := by first | exact .inr rfl | exact .inl rfl) (hfs : ∀ x, foldedSetIterable it X.env x = pure x := by intro _; rfl) :
    DS X ρ (.Assign [.Name y' py] (.ListComp elt [⟨.Name x p, it, ifs, 0⟩] scope pos) spos) D := by
  refine ds_setLc j [(x, i)] t g hc hN hi (blkOk_by ok) hsz (fun y hy => ⟨[i], ρ.set i (.dat (f y)), by simp, fun s H C cl fp => ⟨?_, hel y hy s H C cl fp⟩⟩) k hlt hy hyl hsw (by intro j hj m h; simp at hj; subst hj; exact hw m h) hfs
  have h := dg_name (X := X.blk s H scope (compEnvC scope cl C X.env) fp) (ρ := wipeS ρ [i]) (d := f y) (pos := p) i hN (by
    intro m h
    unfold wipeS wipeS at h
    by_cases hlt : i < ρ.length
    · rw [List.getElem?_set_self hlt] at h; cases h
    · rw [List.getElem?_eq_none (by rw [List.length_set]; omega)] at h; cases h) hxi hl hf
  have e : (wipeS ρ [i]).set i (.dat (f y)) = ρ.set i (.dat (f y)) := by unfold wipeS wipeS; rw [List.set_set]
  rw [e] at h
  exact h
end
end DL
set_option Elab.async false
set_option linter.all false
set_option maxRecDepth 100000
set_option maxHeartbeats 2000000
/-! DL9: is True, max with default=. -/
namespace DL
open PySem PySem.Spec PyProof.Rows L2
section
variable {X : Cx} {ρ : List Sl} {e a b : Expr} {d : D} {pos p kpos : Pos}
def D.isB : D → Bool → Bool
  | .bl c, b => c == b
  | _, _ => false
theorem op_isB {z : Bool} : OpR X (compareOp .Is) (fun x y H Q => y = .bl z ∧ Q (.bl (decide (x = .bl z))) H) := by
  intro pins s σ H x y v u Q I rx ry h
  obtain ⟨rfl, q⟩ := h
  cases (show u = Value.bool z from ry)
  have fin : ∀ k : Bool, k = decide (x = .bl z) → EP X pins σ Q (.bool k) s := fun k e => by subst e; exact ⟨.bl _, H, I, rfl, q⟩
  cases x with
  | non => cases (show v = Value.none from rx); exact wpAny_pure (fin _ rfl)
  | bl c => cases (show v = Value.bool c from rx); exact wpAny_pure (fin _ (by cases c <;> cases z <;> rfl))
  | int i => obtain ⟨t, rfl⟩ := (show ∃ t, v = Value.int i t from rx); exact wpAny_pure (fin _ rfl)
  | str i => obtain ⟨t, rfl⟩ := (show ∃ t, v = Value.str i t from rx); exact wpAny_pure (fin _ rfl)
  | byt i => obtain ⟨t, rfl⟩ := (show ∃ t, v = Value.bytes i t from rx); exact wpAny_pure (fin _ rfl)
  | flt i => obtain ⟨t, rfl⟩ := (show ∃ t, v = Value.float i t from rx); exact wpAny_pure (fin _ rfl)
  | ref i => cases (show v = Value.ref i from rx); exact wpAny_pure (fin _ rfl)
  | ty i => cases (show v = Value.type i from rx); exact wpAny_pure (fin _ rfl)
theorem c_isB {z : Bool} : CmpD X .Is d (.bl z) (d.isB z) := ⟨_, op_isB, fun Z H x y Q r1 r2 k => by
  cases r2
  refine ⟨rfl, ?_⟩
  have e : decide (x = .bl z) = d.isB z := by
    cases r1 with
    | bl c => cases c <;> cases z <;> rfl
    | _ => rfl
  rw [e]; exact k _ _ (Same.refl _) (.bl _)⟩
/-- max(xs, default=d), ints -/
def maxDf (ns : List Int) (d : Int) : Int := match ns with
  | [] => d
  | n :: r => r.foldl max n
def rMaxD (K : PySem.W.Frag) : List V → List V → Hp → VK → Prop := fun vs zs H Q => ∃ (a : Addr) (ns : List Int) (d : Int), vs = [V.ref a] ∧ zs = [V.int d] ∧ SqL K H a (ns.map V.int) ∧ Q (.int (maxDf ns d)) H
theorem alike_ints (ns : List Int) : PySem.W.AlikeAll (ns.map PyData.int) := by
  constructor
  · intro x hx y hy
    obtain ⟨i, _, rfl⟩ := List.mem_map.mp hx
    obtain ⟨j, _, rfl⟩ := List.mem_map.mp hy
    rfl
  · intro x hx
    obtain ⟨i, _, rfl⟩ := List.mem_map.mp hx
    intro h; cases h
theorem depth_ints (ns : List Int) : PyData.depthAll (ns.map PyData.int) = 0 := by
  induction ns with
  | nil => rfl
  | cons n r ih => simp [PyData.depthAll, ih, PyData.depth]
theorem dp_ints {K : PySem.W.Frag} {H : Hp} : ∀ ns : List Int, DpAll K H (ns.map V.int) (ns.map PyData.int)
  | [] => .nil
  | n :: r => .cons (.int n) (dp_ints r)
theorem cr_maxD (hc : X.calm = true) (hu : X.A.units + 1 < cLine) : CallRK X (.builtin "max") [Str.ofString "default"] (rMaxD X.K) := by
  intro pins s σ H vs zs us ws Q I r rz h
  obtain ⟨a, ns, d, rfl, rfl, hs, q⟩ := h
  obtain rfl := Vals.ref1 r
  obtain ⟨w1, rfl, e1⟩ := vals1 rz
  obtain ⟨t, rfl⟩ := (show ∃ t, w1 = Value.int d t from e1)
  obtain ⟨its, rv, hl, _⟩ := I.list hs
  obtain ⟨as, rd⟩ := Dp.readsAll I _ _ _ (dp_ints ns) rv
  refine PySem.W.max_list_default (I.ok.hd hc) hl.isList rd (alike_ints ns) (by rw [depth_ints]; omega) (fun h0 h' tk hk => ?_) (fun y ys i v h' tk bs hy hv hr hk => ?_)
  · have : ns = [] := List.map_eq_nil_iff.mp h0
    subst this
    exact ⟨.int d, H, I.kept hk, ⟨_, rfl⟩, q⟩
  · cases ns with
    | nil => cases hy
    | cons n r' =>
      rw [List.map_cons] at hy
      injection hy with h1 h2
      subst h1 h2
      rw [PySem.W.maxD_ints] at hr
      cases hr
      exact ⟨.int (maxDf (n :: r') d), H, I.kept hk, ⟨_, rfl⟩, q⟩
theorem de_maxD {ns : List Int} {z : Int} (hc : X.calm = true) (hu : X.A.units + 1 < cLine) (hm : X.mg "max" = none) (h : DE X ρ e (.lst (ns.map .int))) (h' : DE X ρ b (.int z)) (hg : Gl X "max" := by rfl)
    (hs : starEach (e :: []) X.env = (false, eval e X.env) :: starEach [] X.env := by rfl)
    (he : backTo pos (starEach (e :: []) X.env) = (false, eval e X.env) :: backTo pos (starEach [] X.env) := by rfl) (hpl : (backTo pos (starEach (e :: []) X.env)).any (·.1) = false := by rfl)
    (hall : (backToKw pos (keywordEach [⟨some "default", b, kpos⟩] X.env)).all (·.1.isSome) = true := by rfl) (hnone : (backToKw pos (keywordEach [⟨some "default", b, kpos⟩] X.env)).any (·.1.isNone) = false := by rfl)
    (hks : (backToKw pos (keywordEach [⟨some "default", b, kpos⟩] X.env)).filterMap (·.1) = [Str.ofString "default"] := by rfl) :
    DE X ρ (.Call (.Name "max" p) [e] [⟨some "default", b, kpos⟩] pos) (.int (maxDf ns z)) := fun B O σ H Q A k =>
  (pe_callBK (cr_maxD hc hu) hg hm (by decide +kernel) pa_sa (pk_cons pe_se pk_nil) (he := he) (hpl := hpl) (hall := hall) (hnone := hnone) (hks := hks)).se
    (da_cons h da_nil hs B O σ H _ A fun vs H1 s1 r1 => by
      obtain ⟨v, rfl, r⟩ := r1.inv1
      refine h' B O σ H1 _ (A.grow s1) fun w H2 s2 r2 => ?_
      cases r with
      | lst hl ha =>
        obtain rfl := ha.ints
        cases r2
        exact ⟨_, _, _, rfl, rfl, s2.seq (hl.imp (rd_mono off_le) id), k _ _ (s1.trans s2) (.int _)⟩)
end
end DL
set_option Elab.async false
set_option linter.all false
set_option maxRecDepth 100000
set_option maxHeartbeats 2000000
/-! DLA: the law's own comparison (_law_same) over data; small sugar. -/
namespace DL
open PySem PySem.Spec PyProof.Rows L2
section
variable {X : Cx} {ρ : List Sl} {a b c : Expr} {s1 s2 sts : List Stmt} {pos p : Pos} {D : DEnds} {xs : List DL.D}
theorem ds_ifT (hc : DT X ρ c true) (h : DSs X ρ s1 D) : DS X ρ (.If c s1 s2 pos) D := ds_if hc (fun _ => h) (fun e => nomatch e)
theorem ds_ifF (hc : DT X ρ c false) (h : DSs X ρ s2 D) : DS X ρ (.If c s1 s2 pos) D := ds_if hc (fun e => nomatch e) (fun _ => h)
/-- a list's length has a bound -/
theorem dss_len (i : Nat) (k : xs.length ≤ sizeLine → DSs X ρ sts D) (hρ : ρ[i]? = some (.dat (.lst xs)) := by rfl) : DSs X ρ sts D := fun B O σ H H0 De W T A s0 C => ⟨fun pins s I => by
  obtain ⟨v, e, r⟩ := A.sl.get hρ
  cases r with
  | lst hs ha =>
    obtain ⟨_, _, _, hz⟩ := I.list (show SqL X.K H _ _ from hs.imp (rd_mono off_le) id)
    exact (k (by rw [← ha.length]; exact hz) B O σ H H0 De W T A s0 C).run pins s I⟩
theorem dss_lenT (i : Nat) (k : xs.length ≤ sizeLine → DSs X ρ sts D) (hρ : ρ[i]? = some (.dat (.tup xs)) := by rfl) : DSs X ρ sts D := fun B O σ H H0 De W T A s0 C => ⟨fun pins s I => by
  obtain ⟨v, e, r⟩ := A.sl.get hρ
  cases r with
  | tup hs ha =>
    obtain ⟨_, _, _, hz⟩ := I.tuple (show SqT X.K H _ _ from hs.imp (rd_mono off_le) id)
    exact (k (by rw [← ha.length]; exact hz) B O σ H H0 De W T A s0 C).run pins s I⟩
theorem dss_lenLT (i : Nat) {d : DL.D} (h : d = .lst xs ∨ d = .tup xs) (k : xs.length ≤ sizeLine → DSs X ρ sts D) (hρ : ρ[i]? = some (.dat d) := by rfl) : DSs X ρ sts D := by
  rcases h with rfl | rfl
  · exact dss_len i k hρ
  · exact dss_lenT i k hρ
end
mutual
def sameD : D → D → Bool
  | g, .non => g.isNon
  | g, .bl b => g.isB b
  | g, .int i => match g with
    | .int j => decide (j = i)
    | _ => false
  | g, .str x => match g with
    | .str y => decide (y = x)
    | _ => false
  | g, .lst ds => match g with
    | .lst gs => sameDs gs ds
    | _ => false
  | g, .tup ds => match g with
    | .tup gs => sameDs gs ds
    | _ => false
  | _, _ => false
def sameDs : List D → List D → Bool
  | gs, [] => gs.isEmpty
  | gs, d :: ds => match gs with
    | [] => false
    | g :: gs => sameD g d && sameDs gs ds
end
mutual
def D.dep : D → Nat
  | .lst ds => D.deps ds + 1
  | .tup ds => D.deps ds + 1
  | _ => 0
def D.deps : List D → Nat
  | [] => 0
  | d :: ds => max d.dep (D.deps ds)
end
def D.tyn : D → String
  | .non => "NoneType"
  | .bl _ => "bool"
  | .int _ => "int"
  | .str _ => "str"
  | .lst _ => "list"
  | .tup _ => "tuple"
  | .dic _ => "dict"
  | _ => ""
theorem D.tyd {d : D} (h : d.ok = true) : TyD d d.tyn := by
  cases d with
  | non => exact .non
  | bl b => exact .bl b
  | int i => exact .int i
  | str s => exact .str s
  | lst x => exact .lst x
  | tup x => exact .tup x
  | _ => simp [D.ok] at h
theorem sameDs_len : ∀ {gs ds : List D}, gs.length ≠ ds.length → sameDs gs ds = false
  | [], [], h => absurd rfl h
  | g :: gs, [], _ => rfl
  | [], d :: ds, _ => rfl
  | g :: gs, d :: ds, h => by
    simp only [sameDs]
    rw [sameDs_len (fun e => h (by simp [e])), Bool.and_false]
theorem sameDs_all : ∀ {gs ds : List D}, gs.length = ds.length → (∀ (k : Nat) g d, gs[k]? = some g → ds[k]? = some d → sameD g d = true) → sameDs gs ds = true
  | [], [], _, _ => rfl
  | [], d :: ds, h, _ => nomatch h
  | g :: gs, [], h, _ => nomatch h
  | g :: gs, d :: ds, h, ha => by
    simp only [sameDs]
    rw [ha 0 g d rfl rfl, sameDs_all (by simpa using h) fun k g' d' h1 h2 => ha (k + 1) g' d' (by simpa using h1) (by simpa using h2)]
    rfl
theorem sameDs_one : ∀ {gs ds : List D} {k : Nat} {g d : D}, gs[k]? = some g → ds[k]? = some d → sameD g d = false → sameDs gs ds = false
  | [], _, k, g, d, h, _, _ => by simp at h
  | _ :: _, [], k, g, d, _, h, _ => by simp at h
  | g0 :: gs, d0 :: ds, 0, g, d, h1, h2, h => by
    simp at h1 h2; subst h1 h2
    simp only [sameDs]; rw [h, Bool.false_and]
  | g0 :: gs, d0 :: ds, k + 1, g, d, h1, h2, h => by
    simp only [sameDs]; rw [sameDs_one (by simpa using h1) (by simpa using h2) h, Bool.and_false]
theorem D.oks_get : ∀ {ds : List D} {k : Nat} {d : D}, D.oks ds = true → ds[k]? = some d → d.ok = true
  | [], k, d, _, h => by simp at h
  | d0 :: ds, 0, d, h, e => by simp at e; subst e; simp [D.oks] at h; exact h.1
  | d0 :: ds, k + 1, d, h, e => by simp [D.oks] at h; exact D.oks_get h.2 (by simpa using e)
theorem D.deps_get : ∀ {ds : List D} {k : Nat} {d : D}, ds[k]? = some d → d.dep ≤ D.deps ds
  | [], k, d, h => by simp at h
  | d0 :: ds, 0, d, e => by simp at e; subst e; simp only [D.deps]; omega
  | d0 :: ds, k + 1, d, e => by have := D.deps_get (ds := ds) (k := k) (d := d) (by simpa using e); simp only [D.deps]; omega
/-- by kind -/
def D.sel (z0 z1 z2 z3 z4 z5 : Bool) : D → Bool
  | .non => z0
  | .bl _ => z1
  | .int _ => z2
  | .str _ => z3
  | .lst _ => z4
  | .tup _ => z5
  | _ => false
theorem kitD {K : PySem.W.Frag} {m : String} {z0 z1 z2 z3 z4 z5 : Bool} {g : D} (h : g.ok = true) (h0 : kitB "NoneType" m = some z0) (h1 : kitB "bool" m = some z1) (h2 : kitB "int" m = some z2) (h3 : kitB "str" m = some z3) (h4 : kitB "list" m = some z4) (h5 : kitB "tuple" m = some z5) :
    PySem.W.kitOne K (.type g.tyn) (.type m) = some (g.sel z0 z1 z2 z3 z4 z5) := by
  cases g with
  | non => exact kit_ty h0
  | bl b => exact kit_ty h1
  | int i => exact kit_ty h2
  | str s => exact kit_ty h3
  | lst x => exact kit_ty h4
  | tup x => exact kit_ty h5
  | _ => simp [D.ok] at h
abbrev D.isInt : D → Bool := D.sel false true true false false false
abbrev D.isBl : D → Bool := D.sel false true false false false false
abbrev D.isStr : D → Bool := D.sel false false false true false false
abbrev D.isLst : D → Bool := D.sel false false false false true false
abbrev D.isTup : D → Bool := D.sel false false false false false true
abbrev D.isDic : D → Bool := D.sel false false false false false false
theorem kit_int {K : PySem.W.Frag} {g : D} (h : g.ok = true) : PySem.W.kitOne K (.type g.tyn) (.type "int") = some g.isInt := kitD h (by decide +kernel) (by decide +kernel) (by decide +kernel) (by decide +kernel) (by decide +kernel) (by decide +kernel)
theorem kit_bool {K : PySem.W.Frag} {g : D} (h : g.ok = true) : PySem.W.kitOne K (.type g.tyn) (.type "bool") = some g.isBl := kitD h (by decide +kernel) (by decide +kernel) (by decide +kernel) (by decide +kernel) (by decide +kernel) (by decide +kernel)
theorem kit_str {K : PySem.W.Frag} {g : D} (h : g.ok = true) : PySem.W.kitOne K (.type g.tyn) (.type "str") = some g.isStr := kitD h (by decide +kernel) (by decide +kernel) (by decide +kernel) (by decide +kernel) (by decide +kernel) (by decide +kernel)
theorem kit_list {K : PySem.W.Frag} {g : D} (h : g.ok = true) : PySem.W.kitOne K (.type g.tyn) (.type "list") = some g.isLst := kitD h (by decide +kernel) (by decide +kernel) (by decide +kernel) (by decide +kernel) (by decide +kernel) (by decide +kernel)
theorem kit_tuple {K : PySem.W.Frag} {g : D} (h : g.ok = true) : PySem.W.kitOne K (.type g.tyn) (.type "tuple") = some g.isTup := kitD h (by decide +kernel) (by decide +kernel) (by decide +kernel) (by decide +kernel) (by decide +kernel) (by decide +kernel)
theorem kit_dict {K : PySem.W.Frag} {g : D} (h : g.ok = true) : PySem.W.kitOne K (.type g.tyn) (.type "dict") = some g.isDic := kitD h (by decide +kernel) (by decide +kernel) (by decide +kernel) (by decide +kernel) (by decide +kernel) (by decide +kernel)
def D.eqI : D → Int → Bool
  | .int j, i => decide (j = i)
  | _, _ => false
def D.eqS : D → Str → Bool
  | .str j, i => decide (j = i)
  | _, _ => false
theorem c_eqDI {X : Cx} {g : D} {i : Int} (hi : g.isInt = true) (hb : g.isBl = false) : CmpD X .Eq g (.int i) (g.eqI i) := by
  cases g with
  | int j => exact c_eq
  | bl b => simp [D.sel] at hb
  | _ => simp [D.sel] at hi
theorem c_eqDS {X : Cx} {g : D} {i : Str} (hi : g.isStr = true) : CmpD X .Eq g (.str i) (g.eqS i) := by
  cases g with
  | str j => exact c_eqS
  | _ => simp [D.sel] at hi
theorem roomU {k : Nat} {A : Around} (hr : Room k A) {n : Nat} (hn : n ≤ 100) : A.units + 1 + n < cLine := by have := hr.un; omega
theorem roomU0 {k : Nat} {A : Around} (hr : Room k A) {n : Nat} (hn : n ≤ 100) : A.units + n < cLine := by have := hr.un; omega
def RSame (n : Nat) (ds : List D) (out : Out) : Prop := ∃ g d, ds = [g, d] ∧ g.ok = true ∧ d.ok = true ∧ d.dep ≤ n ∧ out = .val (.bl (sameD g d))
end DL
set_option Elab.async false
set_option linter.all false
set_option maxRecDepth 100000
set_option maxHeartbeats 2000000
/-! DLB: defs of which only a property of the answer is told. -/
namespace DL
open PySem PySem.Spec PyProof.Rows L2
def spN (K : PySem.W.Frag) (Pre : List D → Prop) (R : List D → Out → Prop) : Sp := fun vs H Q E => ∃ B ds, Al B H ∧ DRs K (off B H) vs ds ∧ Pre ds ∧ ∀ out, R ds out → Out.k K B H Q E out
def endsN (R : Out → Prop) : DEnds := { nx := fun _ => R (.val .non), rt := fun d => R (.val d), rm := fun m => R (.new m) }
theorem outN_cov {K : PySem.W.Frag} {B : List Addr} {H : Hp} {Q : VK} {E : XK} {R : Out → Prop} (hk : ∀ out, R out → Out.k K B H Q E out) : Cov K B H { nx := fun _ H' => Q .non H', rt := Q } (fun _ _ _ _ => False) (endsN R) := by
  refine ⟨fun ρ O σ H' h A q => ?_, fun d' v H' h r q => ?_, fun m p o H' h n e r q => ?_, fun ρ O σ H' h => h.elim, fun ρ O σ H' h => h.elim, fun C fs ρ O σ H' od h => h.elim⟩
  · exact hk _ h _ _ (q.trans off_le) .non
  · exact hk _ h _ _ q r
  · exact hk _ h _ _ _ n q e r
section
variable {P : Program} {w : World} {K : PySem.W.Frag} {mg : Str → Option Value} {base : Heap}
theorem dfnN {x qual : Str} {st : Stmt} {f : Addr} {fd : FuncData} {N ps : List Str} {k : Nat} {Pre : List D → Prop} {R : List D → Out → Prop} (F : Fun K x qual st f fd) (S : FnScope N ps (defScope st)) (len : ∀ ds, Pre ds → ds.length = ps.length)
    (body : ∀ ds, Pre ds → ∀ (cdv : Value) (A : Around) (outer : List Env) (s : Shared) (H : Hp) (E : XK), Room k (A.deeper (envOfC qual (defScope st) s.heap.objs.size f cdv)) →
      DSs (cxOf CX0 P w K mg base N qual (defScope st) f cdv A outer s H E).nox (startS N ds) (defBody st) (endsN (R ds))) : FnOk P w K mg base CX0 (k + 1) f fd ps (spN K Pre R) := by
  refine F.ok S (fun vs H Q E h => ?_) (fun cdv A outer s H vs Q E hr h => ?_)
  · obtain ⟨B, ds, _, r, hP, _⟩ := h
    rw [r.length]; exact len _ hP
  · obtain ⟨B, ds, al, r, hP, hk⟩ := h
    refine ⟨_, pss_ss, ?_⟩
    exact body ds hP cdv A outer s H E hr B [] (L2.start N vs) H H _ (fun _ _ _ _ => False) takes_noneN ⟨slots_start (by rw [List.nil_append]; exact r), al, fun b hb => by cases hb⟩ (by rw [off_nil]; exact Same.refl _)
      (outN_cov hk)
end
variable {X : Cx} {ρ : List Sl} {e : Expr} {es : List Expr} {ds : List D} {d : D} {m : MO} {p pos pos' : Pos} {D' : DEnds}
def DFN (X : Cx) (ρ : List Sl) (e : Expr) (M : MO → Prop) : Prop := ∀ B O σ H Q, At X.K B O σ H ρ → (∀ m, M m → New X.K (O ++ B) H m Q) → SE X e σ H Q
def DEN (X : Cx) (ρ : List Sl) (e : Expr) (M : D → Prop) : Prop := ∀ B O σ H Q, At X.K B O σ H ρ → (∀ d, M d → Yld X.K (O ++ B) H d Q) → SE X e σ H Q
theorem df_callN {CX : CXT} {k : Nat} {f : Addr} {fd : FuncData} {ps : List Str} {Pre : List D → Prop} {R : List D → Out → Prop} {M : MO → Prop} {x : Str} {E : XK} (F : FnOk X.prog X.w X.K X.mg X.base CX k f fd ps (spN X.K Pre R)) (hr : Room k X.A) (hm : X.mg x = some (.ref f)) (hk : PySem.W.keepIn X.K (.ref f) = true)
    (hb : Binds X.K fd ps []) (hx : Passes CX X E) (ha : DA X ρ (e :: es) ds) (hP : Pre ds) (hR : ∀ out, R ds out → ∃ m, out = .new m ∧ M m) (hg : Gl X x := by rfl) (hd : (x == ("__debug__" : Str)) = false := by decide)
    (hs : starEach (e :: es) X.env = (false, eval e X.env) :: starEach es X.env := by rfl) (hpl : (backTo pos (starEach es X.env)).any (·.1) = false := by rfl) : DFN X ρ (.Call (.Name x p) (e :: es) [] pos) M := fun B O σ H Q A kk =>
  (pe_call F hr hg hm hk hb .nil hx pa_sa hd hs hpl).se (ha B O σ H _ A fun vs H1 s1 r1 => by
    rw [List.append_nil]
    exact ⟨O ++ B, ds, A.all.mono s1, r1, hP, fun out h => by obtain ⟨m, rfl, hm⟩ := hR out h; exact (kk m hm).grow s1⟩)
theorem de_callN {CX : CXT} {k : Nat} {f : Addr} {fd : FuncData} {ps : List Str} {Pre : List D → Prop} {R : List D → Out → Prop} {M : D → Prop} {x : Str} {E : XK} (F : FnOk X.prog X.w X.K X.mg X.base CX k f fd ps (spN X.K Pre R)) (hr : Room k X.A) (hm : X.mg x = some (.ref f)) (hk : PySem.W.keepIn X.K (.ref f) = true)
    (hb : Binds X.K fd ps []) (hx : Passes CX X E) (ha : DA X ρ (e :: es) ds) (hP : Pre ds) (hR : ∀ out, R ds out → ∃ d, out = .val d ∧ M d) (hg : Gl X x := by rfl) (hd : (x == ("__debug__" : Str)) = false := by decide)
    (hs : starEach (e :: es) X.env = (false, eval e X.env) :: starEach es X.env := by rfl) (hpl : (backTo pos (starEach es X.env)).any (·.1) = false := by rfl) : DEN X ρ (.Call (.Name x p) (e :: es) [] pos) M := fun B O σ H Q A kk =>
  (pe_call F hr hg hm hk hb .nil hx pa_sa hd hs hpl).se (ha B O σ H _ A fun vs H1 s1 r1 => by
    rw [List.append_nil]
    exact ⟨O ++ B, ds, A.all.mono s1, r1, hP, fun out h => by obtain ⟨m, rfl, hm⟩ := hR out h; exact (kk m hm).grow s1⟩)
theorem ds_ownN (i : Nat) {x : Str} {M : MO → Prop} (hN : X.N.Nodup) (he : DFN X ρ e M) (k : ∀ m, M m → D'.nx (ρ.set i (.own m))) (hlt : i < ρ.length := by first | decide | simp [startS]) (hi : X.N[i]? = some x := by rfl) (hl : Loc X.env.scope x := by first | exact .inl rfl | exact .inr rfl)
    (hs : swapsWith e (some (.Name x pos')) pos.line X.env = pure false := by rfl) (hf : X.fn x = true ∨ X.env.scope.names.lookup x = some .local := by first | exact .inl rfl | exact .inr rfl) : DS X ρ (.Assign [.Name x pos'] e pos) D' := fun B O σ H H0 De W T A s0 C =>
  (ps_set hN hi hl pe_se hs hf).ss (he B O σ H _ A fun m hm p o H1 hn s1 e1 r1 => by
    obtain ⟨O', A', s'⟩ := A.own s0 hn s1 e1 r1 i hlt
    exact C.nx _ O' _ _ (k m hm) A' s')
theorem ds_setN (i : Nat) {x : Str} {M : D → Prop} (hN : X.N.Nodup) (he : DEN X ρ e M) (k : ∀ d, M d → D'.nx (ρ.set i (.dat d))) (hi : X.N[i]? = some x := by rfl) (hl : Loc X.env.scope x := by first | exact .inl rfl | exact .inr rfl)
    (hs : swapsWith e (some (.Name x pos')) pos.line X.env = pure false := by rfl) (hf : X.fn x = true ∨ X.env.scope.names.lookup x = some .local := by first | exact .inl rfl | exact .inr rfl) : DS X ρ (.Assign [.Name x pos'] e pos) D' := fun B O σ H H0 De W T A s0 C =>
  (ps_set hN hi hl pe_se hs hf).ss (he B O σ H _ A fun v hv H1 H2 s1 r1 => by
    obtain ⟨O', hO, hS⟩ := (A.grow s1).sl.set r1 i
    exact C.nx _ O' _ _ (k v hv) ((A.grow s1).sub hO hS) ((keep_grow s0 s1).trans (off_sub hO)))
theorem DRs.eraseIdx {K : PySem.W.Frag} {G : Hp} : ∀ {vs : List V} {ds : List D} (h : DRs K G vs ds) (n : Nat), DRs K G (vs.eraseIdx n) (ds.eraseIdx n)
  | _, _, .nil, n => by simp; exact .nil
  | _, _, .cons r h, 0 => by simpa using h
  | _, _, .cons r h, n + 1 => by simp only [List.eraseIdx_cons_succ]; exact .cons r (DRs.eraseIdx h n)
section
variable {D : DEnds} {apos : Pos}
/-- xs.pop(j) -/
theorem ds_popAt (i : Nat) {x : Str} {cpos : Pos} {n : Nat} {ds : List DL.D} (he : DE X ρ e (.int (n : Int))) (hn : n < ds.length) (hb : n < 2 ^ 62) (k : D.nx (ρ.set i (.own (.lst (ds.eraseIdx n))))) (hρ : ρ[i]? = some (.own (.lst ds)) := by rfl) (hN : X.N[i]? = some x := by rfl)
    (hv : Vis X.env.scope x := by first | exact .inl rfl | exact .inr (.inl rfl) | exact .inr (.inr rfl)) (hd : (x == ("__debug__" : Str)) = false := by decide) (hcd : (x == ("__classdict__" : Str)) = false := by decide)
    (q1 : attributeBase (.Name x p) "pop" X.env (eval (.Name x p) X.env) = eval (.Name x p) X.env := by rfl)
    (q2 : ((((backTo cpos (starEach (e :: []) X.env)).all fun x => !x.1) && (backToKw cpos (keywordEach [] X.env)).all fun x => x.1.isSome) && decide (((e :: []).length + ([] : List Keyword).length + if ([] : List Keyword).isEmpty = true then 0 else 1) < 30)) = true := by rfl)
    (q3 : (apos.endLine == cpos.line) = true := by rfl) (q4 : starEach (e :: []) X.env = (false, eval e X.env) :: starEach [] X.env := by rfl) (q5 : (backTo cpos (starEach [] X.env)).any (·.1) = false := by rfl)
    (hs : swapsWith (.Call (.Attribute (.Name x p) "pop" apos) [e] [] cpos) none pos.line X.env = pure false := by rfl) :
    DS X ρ (.Expr (.Call (.Attribute (.Name x p) "pop" apos) [e] [] cpos) pos) D := fun B O σ H H0 De W T A s0 C => by
  refine (ps_expr (pe_bm (e := e) (es := []) PySem.F.plainAttrs_list PySem.F.slot_list_pop PySem.F.type_list_pop mt_popAt (pe_var hN hv hd hcd) pa_sa q1 q2 q3 q4 q5) hs).ss ?_
  obtain ⟨a, o, e1, e2, e3, e4, q⟩ := A.sl.own_at hρ
  cases e4 with
  | lst ha =>
    refine ⟨_, e1, .inl ⟨rfl, _, SqL.of e3⟩, ?_⟩
    refine da_cons he da_nil q4 B O σ H _ A fun ws H1 s1 r1 => ?_
    obtain ⟨v, rfl, r⟩ := r1.inv1
    cases r
    obtain ⟨y, hy, ry⟩ := (ha.mono (off_same s1)).get n (List.getElem?_eq_getElem hn)
    refine ⟨_, _, (n : Int), n, y, rfl, rfl, s1 _ _ e3, by omega, by omega, ?_, hy, ?_⟩
    · rw [ha.length]
      show seqIndex? (n : Int) ds.length = some n
      unfold seqIndex?
      have h0 : ¬ ((n : Int) < 0) := by omega
      simp [h0, hn]
    obtain ⟨a', o', f1, f2, f3, f4, q'⟩ := (A.grow s1).sl.own_at hρ
    rw [e1] at f1; cases f1
    have hoff : ∀ o, off (O ++ B) (upd H1 a o) = off (O ++ B) H1 := fun o => off_upd_in (List.mem_append_left _ e2)
    refine C.nx _ O _ _ k ⟨by rw [hoff]; exact q' _ _ (.lst ((ha.mono (off_same s1)).eraseIdx n)), fun b hb => ?_, A.dj⟩ ?_
    · rw [upd_ne (show b ≠ a from fun z => A.dj a e2 (z ▸ hb))]; exact A.al.mono s1 b hb
    rw [off_upd_in e2]
    exact keep_grow s0 s1
end
section
variable {a b c : Expr} {da db dc : D}
theorem dt_chain {op op' : CmpOp} {x y : Bool} (c1 : CmpD X op da db x) (c2 : CmpD X op' db dc y) (ha : DE X ρ a da) (hb : DE X ρ b db) (hc : DE X ρ c dc)
    (hm : lastMarks [op, op'] [b, c] = false := by with_unfolding_all rfl) : DT X ρ (.Compare a [op, op'] [b, c] pos) (x && y) := by
  obtain ⟨r, ho, h⟩ := c1.ok
  obtain ⟨r', ho', h'⟩ := c2.ok
  intro B O σ H Q A k
  refine (pt_chain ho ho' pe_se pe_se pe_se hm).st ?_
  refine ha B O σ H _ A fun v1 H1 s1 r1 => hb B O σ H1 _ (A.grow s1) fun v2 H2 s2 r2 => h (O ++ B) _ _ _ _ (r1.mono (off_same s2)) r2 fun v3 H3 s3 r3 => ?_
  cases r3
  refine ⟨_, rfl, ?_⟩
  cases x with
  | false => rw [if_neg Bool.false_ne_true]; exact ⟨_, rfl, k _ (s1.trans (s2.trans s3))⟩
  | true =>
    rw [if_pos rfl]
    refine hc B O σ H3 _ (A.grow (s1.trans (s2.trans s3))) fun v4 H4 s4 r4 => h' (O ++ B) _ _ _ _ (r2.mono (off_same (s3.trans s4))) r4 fun v5 H5 s5 r5 => ?_
    cases r5
    exact ⟨_, rfl, k _ (s1.trans (s2.trans (s3.trans (s4.trans s5))))⟩
end
end DL
set_option Elab.async false
set_option linter.all false
set_option maxRecDepth 100000
set_option maxHeartbeats 4000000
/-! DLC: try whose suites know the exception by its place alone; defs called there. -/
namespace DL
open PySem PySem.Spec PyProof.Rows L2

/-! ### a for over range within a suite -/
section
variable {X : Cx} {ρ : List Sl} {body : List Stmt} {items : List D} {tg : Expr} {D : DEnds}
theorem for_core {wi : TI} (Iv : Nat → List Sl → Prop) {B O : List Addr} {σ : L2.St} {H H0 : Hp} {De : Ends} {W : WX} (T : L2N.Takes X W) (A : At X.K B O σ H ρ) (s0 : Same H0 (off O H)) (C : Cov X.K B H0 De W D)
    (hi : ∀ R : It → Hp → Prop, (∀ J H', Same H H' → JOk X.K (off (O ++ B) H') J items → R J H') → wi σ H R) (h0 : Up (Iv 0) ρ)
    (turn : ∀ (k : Nat) x ρ', items[k]? = some x → Iv k ρ' → ∃ is ρ'', DG X ρ' tg x is ρ'' ∧ DSs X ρ'' body { D with nx := Up (Iv (k + 1)), bk := D.nx, ct := Up (Iv (k + 1)) })
    (done : ∀ ρ', Iv items.length ρ' → D.nx ρ') : tFor wi (SG X tg) (SSs X body) De σ H := by
  refine hi _ fun J H1 s1 j => ?_
  have C1 : Cov X.K B (off O H1) De W D := C.weak (keep_grow s0 s1)
  have inner : ∀ {O' : List Addr} {H' : Hp}, Same (off O H1) (off O' H') → Same (off (O ++ B) H1) (off (O' ++ B) H') := fun {O' H'} q b u e => by
    have hb : b ∉ O ++ B := fun z => by rw [off_in z] at e; cases e
    rw [off_ne hb] at e
    have e' := q b u (by rw [off_ne fun z => hb (List.mem_append_left _ z)]; exact e)
    have hb' : b ∉ O' := fun z => by rw [off_in z] at e'; cases e'
    rw [off_ne hb'] at e'
    rw [off_ne fun z => (List.mem_append.mp z).elim hb' fun z => hb (List.mem_append_right _ z)]
    exact e'
  refine ⟨fun i m σ H => m = items.length - i ∧ i ≤ items.length ∧ ∃ ρ' O', Iv i ρ' ∧ At X.K B O' σ H ρ' ∧ Same (off O H1) (off O' H), (let ⟨ρ', l, h⟩ := h0; ⟨_, rfl, Nat.zero_le _, ρ', O, h, (A.grow s1).le l, Same.refl _⟩), ?_⟩
  rintro i m σ' H' ⟨rfl, hle, ρ', O', hI, A', q⟩
  by_cases hi' : i < items.length
  · obtain ⟨g1, g2⟩ := j.go B O' H' (inner q) A'.all i _ (List.getElem?_eq_getElem hi')
    refine .inr ⟨g1, fun σ'' H'' => ∃ ρ'' O'', Iv (i + 1) ρ'' ∧ At X.K B O'' σ'' H'' ρ'' ∧ Same (off O H1) (off O'' H''), fun σ'' H'' ⟨ρ'', O'', a1, a2, a3⟩ => ⟨_, by omega, rfl, hi', ρ'', O'', a1, a2, a3⟩, fun x H'' hy => ?_⟩
    obtain ⟨s2, r2⟩ := g2 x H'' hy
    obtain ⟨is, ρ2, hg, hb⟩ := turn i _ ρ' (List.getElem?_eq_getElem hi') hI
    refine hg B O' σ' H'' x _ (A'.grow s2) r2 fun σ2 A2 _ => ?_
    refine hb B O' σ2 H'' (off O H1) _ W T A2 (q.trans (off_same s2)) ⟨fun ρ O σ H ⟨ρ', l, h⟩ A q => ⟨ρ', O, h, A.le l, q⟩, C1.rt, C1.rm, fun ρ O σ H h A q => C1.nx ρ O σ H h A q, fun ρ O σ H ⟨ρ', l, h⟩ A q => ⟨ρ', O, h, A.le l, q⟩, C1.ex⟩
  · have e : i = items.length := by omega
    subst e
    exact .inl ⟨j.stop B O' H' (inner q) _ (Nat.le_refl _), C1.nx _ _ _ _ (done _ hI) A' q⟩
theorem ds_range1H (i : Nat) (n : Nat) {x : Str} {a : Expr} {p pos pos' pos'' : Pos} (Iv : Nat → List Sl → Prop) (hN : X.N.Nodup) (hm : X.mg "range" = none) (hxe : PassesOwn (model X.prog X.w) X.A X.env X.xe) (hc : L2H.HotC X) (h : DE X ρ a (.int (n : Int))) (hn : n < 2 ^ 62)
    (h0 : Up (Iv 0) ρ) (turn : ∀ (k : Nat) ρ', k < n → Iv k ρ' → (∀ m, ρ'[i]? ≠ some (.own m)) ∧ DSs X (ρ'.set i (.dat (.int (k : Int)))) body { D with nx := Up (Iv (k + 1)), bk := D.nx, ct := Up (Iv (k + 1)) })
    (done : ∀ ρ', Iv n ρ' → D.nx ρ') (hi : X.N[i]? = some x := by rfl) (hl : Loc X.env.scope x := by first | exact .inl rfl | exact .inr rfl) (hf : X.fn x = true ∨ X.env.scope.names.lookup x = some .local := by first | exact .inl rfl | exact .inr rfl)
    (hg : Gl X "range" := by rfl) (hs : starEach [a] X.env = [(false, eval a X.env)] := by rfl) (hfs : ∀ x, foldedSetIterable (.Call (.Name "range" p) [a] [] pos') X.env x = pure x := by intro _; rfl) :
    DS X ρ (.For (.Name x pos) (.Call (.Name "range" p) [a] [] pos') body [] pos'') D := fun B O σ H H0 De W T A s0 C => by
  have e : ((n : Int)).toNat = n := by omega
  refine (L2H.ps_forH hxe hc (L2H.pi_range1H hg hm pa_sa hs) pg_sg pss_ss hfs).ss (for_core (items := rangeD 0 n) Iv T A s0 C (fun R k => ?_) h0 (fun k y ρ' hy hI => ?_) (fun ρ' hI => done ρ' ?_))
  · refine da_cons h da_nil hs B O σ H _ A fun vs H1 s1 r1 => ?_
    obtain ⟨v, rfl, r⟩ := r1.inv1
    cases r
    exact ⟨_, rfl, by omega, by omega, k _ _ s1 (by rw [e]; exact jok_range)⟩
  · obtain ⟨hk, rfl⟩ := rangeD_get hy
    obtain ⟨h1, h2⟩ := turn k ρ' hk hI
    rw [Int.zero_add]
    exact ⟨_, _, dg_name i hN h1 hi hl hf, h2⟩
  · rw [rangeD_len] at hI; exact hI
end

/-! ### isinstance of the exception that a pin holds -/
def Pin (X : Cx) (C a : Addr) : Prop := ∃ oe : Obj, (a, oe) ∈ X.pn ∧ Zc (.ref C) none oe ∧ ∃ vs, oe.data = .fields vs
theorem call_isP {X : Cx} {a C : Addr} (E : ExcC X.K C) (hp : Pin X C a) : CallR X (.builtin "isinstance") (rIsE X.K C a) := by
  obtain ⟨⟨oc, od, oda, osl⟩, hin, ⟨h1, h2⟩, vs, hv⟩ := hp
  dsimp only at h1 h2 hv
  subst h1 h2 hv
  intro pins s σ H xs us Q I r ⟨c, cv, b, ex, hcv, e, q⟩
  subst ex
  cases r with
  | cons rx rr => cases rr with
    | cons rt rr =>
      cases rr
      cases rx
      obtain rfl := hcv _ rt
      exact PySem.W.kia_one (PySem.W.handS_kitx_exc E.hg E.hk E.hs E.hd E.ha E.hn E.ht E.hm) I.kIn ⟨(I.pin _ (List.mem_append.mpr (.inl hin))).1, rfl, rfl, trivial⟩ e (fun z => nomatch z) fun tk => ⟨.bl b, H, I.kept (t' := tk) fun _ _ z => z, rfl, q⟩
section
variable {X : Cx} {ρ : List Sl} {a b : Expr} {p pos : Pos}
theorem de_isP {C ad : Addr} {cd : D} {cv : Value} {z : Bool} (E : ExcC X.K C) (hp : Pin X C ad) (hm : X.mg "isinstance" = none) (h : DE X ρ a (.opq ad)) (h' : DE X ρ b cd) (hcd : (∃ n, cd = .ty n ∧ cv = .type n) ∨ (∃ E, cd = .opq E ∧ cv = .ref E)) (hk : PySem.W.kitOne X.K (.ref C) cv = some z)
    (hg : Gl X "isinstance" := by rfl)
    (he : starEach (a :: [b]) X.env = (false, eval a X.env) :: starEach [b] X.env := by rfl) (he2 : starEach (b :: []) X.env = (false, eval b X.env) :: starEach [] X.env := by rfl) (hpl : (backTo pos (starEach [b] X.env)).any (·.1) = false := by rfl) :
    DE X ρ (.Call (.Name "isinstance" p) [a, b] [] pos) (.bl z) :=
  de_callB (call_isP E hp) hg hm (by decide +kernel) (da_cons h (da_cons h' da_nil he2) he) (fun Z H vs Q r _ k => by
    obtain ⟨v, w, rfl, r1, r2⟩ := r.inv2
    cases r1
    rcases hcd with ⟨n, rfl, rfl⟩ | ⟨F, rfl, rfl⟩
    · cases r2; exact ⟨_, _, _, rfl, (fun u hu => by cases hu; rfl), hk, k _ _ (Same.refl _) (.bl _)⟩
    · cases r2; exact ⟨_, _, _, rfl, (fun u hu => by cases hu; rfl), hk, k _ _ (Same.refl _) (.bl _)⟩) (he := he) (hpl := hpl)
end

/-! ### defs called within a suite, with the pin told -/
structure FnP (P : Program) (w : World) (K : PySem.W.Frag) (mg : Str → Option Value) (base : Heap) (k : Nat) (f : Addr) (fd : FuncData) (ps : List Str) (sp : Sp) (p : Addr × Obj) : Prop where
  len : ∀ vs H Q E, sp vs H Q E → vs.length = ps.length
  run : ∀ (A : Around) (outer : List Env) (s : Shared) (H : Hp) (us : List Value) (vs : List V) (Q : VK) (E : XK), L2H.RoomH k A → L2H.Hot1 A p → L2H.PinOk outer H s p → Env0 P w K mg base A outer s H → BindsTo s fd ⟨us, []⟩ (ps.zip us) → Vals vs us → sp vs H Q E →
    codeAny (model P w) A (.call (.ref f) ⟨us, []⟩) (CR CX0 outer P w H s Q E) s
section
variable {P : Program} {w : World} {K : PySem.W.Frag} {mg : Str → Option Value} {base : Heap}
theorem fnP {x qual : Str} {st : Stmt} {f : Addr} {fd : FuncData} {N ps : List Str} {k : Nat} {R : List D → Out → Prop} {p : Addr × Obj} (F : Fun K x qual st f fd) (S : FnScope N ps (defScope st)) (len : ∀ ds out, R ds out → ds.length = ps.length ∧ ∀ C fs, out ≠ .exc C fs)
    (body : ∀ ds out, R ds out → ∀ (cdv : Value) (A : Around) (outer : List Env) (s : Shared) (H : Hp) (E : XK), L2H.Hot1 A p →
      DSs (L2H.cxH CX0 P w K mg base N qual (defScope st) f cdv A outer s H E p) (startS N ds) (defBody st) out.ends) : FnP P w K mg base (k + 1) f fd ps (spD K R) p := by
  obtain ⟨oc, od, kV, doc, pm, an, cdv, ct, osl, rfl, lk, hcd⟩ := F.ex
  refine ⟨fun vs H Q E h => ?_, fun A outer s H us vs Q E hr hot hpin e0 hb r h => ?_⟩
  · obtain ⟨B, ds, out, _, r, hR, _⟩ := h
    rw [r.length]; exact (len _ _ hR).1
  obtain ⟨B, ds, out, al, dr, hR, hk⟩ := h
  have hl : vs.length = ps.length := by rw [dr.length]; exact (len _ _ hR).1
  have old : ∀ b o, base.get? b = some o → s.heap.get? b = some o := fun b o e => (e0.bs b o e).1
  have kinds : ∀ y ∈ ps.zip us, (defScope st).names.lookup y.1 = some .local ∨ ((defScope st).names.lookup y.1 = some .cell ∧ ((cellsFrom (s.heap.objs.size + 1) (defScope st).names []).lookup y.1).isSome = true) := fun y hy =>
    (S.par y.1 (List.of_mem_zip (a := y.1) (b := y.2) hy).1).imp id fun q => ⟨q, PySem.W.cellsFrom_some _ _ _ (.inl q)⟩
  refine codeAny_call_function hr.depth ((e0.mod.kin.keeps old) _ _ lk) rfl S.co S.gen rfl (PySem.W.codeRec_of (e0.mod.kin.keeps old) hcd) (hb _ _ _ _ (wpAny_newFunctionEnv_cells S.kind kinds fun env he s1 x => ?_))
  subst he
  refine ⟨(e0.mod.nolimit.keeps old).keeps x.toInCall.keep, codeAny_func ?_⟩
  have I := L2H.inv_startH (CX := CX0) (cd := cdv) (E := E) S hpin e0 hl r x
  refine wpAny_mono ((pss_ss.run [] s1 (L2.start N vs) H { nx := fun _ H' => Q .non H', rt := Q } I
    (body ds out hR cdv A outer s H E hot B [] (L2.start N vs) H H _ (fun _ _ _ _ => False) takes_noneN ⟨slots_start (by rw [List.nil_append]; exact dr), al, fun b hb => by cases hb⟩ (by rw [off_nil]; exact Same.refl _)
      (out_cov hk fun C fs e => absurd e ((len _ _ hR).2 C fs))))) (fun fl s' hs => ?_) fun e s' hs => hs
  cases fl with
  | ret u =>
    obtain ⟨v, σ', H', J, rv, q⟩ := hs
    exact ⟨v, H', J.os, J.bare, J.base, J.hok, rv, q⟩
  | next =>
    obtain ⟨σ', H', J, q⟩ := hs
    exact ⟨.non, H', J.os, J.bare, J.base, J.hok, rfl, q⟩
  | brk => obtain ⟨_, _, _, q⟩ := hs; exact q.elim
  | cont => obtain ⟨_, _, _, q⟩ := hs; exact q.elim
end
section
variable {X : Cx} {ρ : List Sl} {e : Expr} {es : List Expr} {ds : List D} {d : D} {q pos : Pos}
/-- a call of such a def -/
theorem de_callP {k : Nat} {f : Addr} {fd : FuncData} {ps : List Str} {R : List D → Out → Prop} {x : Str} {p : Addr × Obj} (F : FnP X.prog X.w X.K X.mg X.base k f fd ps (spD X.K R) p) (hr : L2H.RoomH k X.A) (hot : L2H.Hot1 X.A p) (hp : p ∈ X.pn) (hm : X.mg x = some (.ref f)) (hk : PySem.W.keepIn X.K (.ref f) = true)
    (hb : Binds X.K fd ps []) (ha : DA X ρ (e :: es) ds) (hR : R ds (.val d)) (hg : Gl X x := by rfl) (hd : (x == ("__debug__" : Str)) = false := by decide)
    (hs : starEach (e :: es) X.env = (false, eval e X.env) :: starEach es X.env := by rfl) (hpl : (backTo pos (starEach es X.env)).any (·.1) = false := by rfl) : DE X ρ (.Call (.Name x q) (e :: es) [] pos) d := by
  intro B O σ H Q A kk
  refine ⟨fun pins s I => ?_⟩
  refine wpAny_Call_Name_kw (ld_glob I hg hm ?_ hd)
  refine PySem.W.callWith_K (h₀ := X.base) I.ok.mod.kin hk (thn ((pa_sa (X := X) (es := e :: es)).run pos pins s σ H _ I (ha B O σ H _ A fun vs H1 s1 r1 => (show spD X.K R vs H1 Q (fun _ _ _ => False) from ⟨O ++ B, ds, .val d, A.all.mono s1, r1, hR, kk.grow s1⟩))) fun us s1 ⟨vs, H1, I1, r, h⟩ => ⟨I1.kIn, ?_⟩) hs hpl
  have b := hb s1 us I1.kIn (by rw [List.append_nil, ← r.length]; exact F.len _ _ _ _ h)
  rw [List.append_nil] at b
  have P1 := I1.pin p (List.mem_append_left _ hp)
  refine wpAny_call (codeAny_mono (F.run X.A X.stack s1 H1 us vs Q (fun _ _ _ => False) hr hot ⟨P1.1, P1.2.1, fun hm => (List.mem_cons.mp (I1.stkSub p.1 hm)).elim P1.2.2.1 P1.2.2.2.1, P1.2.2.2.2⟩ I1.env0 b r h) fun r s' hq => ?_)
  cases r with
  | error e => exact False.elim hq
  | ok fl =>
    cases fl with
    | ret u => exact I1.after hq
    | next => exact hq.elim
    | brk => exact hq.elim
    | cont => exact hq.elim
end
end DL
set_option Elab.async false
set_option linter.all false
set_option maxRecDepth 100000
set_option maxHeartbeats 4000000
/-! DLD: try, the exception known by its place (printed by mk_DLD.py out of DL6). -/
namespace DL
open PySem PySem.Spec PyProof.Rows L2
/-- what the clauses wish of an exception -/
def wP (K : PySem.W.Frag) (Wout : WX) (D : Ends) : List (Value × (Addr → Value → Option Addr → TS)) → WX
  | [] => Wout
  | (c, ts) :: r => fun cls d σ H => ∃ b, PySem.W.exmOne K cls c = some b ∧ (b = true → ∀ a, H a = none → ts a cls d D σ H) ∧ (b = false → wP K Wout D r cls d σ H)
inductive HdsP (X : Cx) : List ExceptHandler → List (Value × (Addr → Value → Option Addr → TS)) → Prop
  | nil : HdsP X [] []
  | one {x : Str} {c : Value} {ts : Addr → Value → Option Addr → TS} {b₀ : Stmt} {suite : List Stmt} {np pos' : Pos} {hds : List ExceptHandler} {l : List (Value × (Addr → Value → Option Addr → TS))} (hc : Names X x c)
      (hsu : ∀ (a : Addr) (oe : Obj) (cls : Value) (d : Option Addr) (pn : List (Addr × Obj)), L2N.Zn cls d oe → (∃ vs, oe.data = .fields vs) → PSs (X.suite a ((a, oe) :: pn)) (b₀ :: suite) (ts a cls d)) (r : HdsP X hds l) : HdsP X (.ExceptHandler (some (.Name x np)) none (b₀ :: suite) pos' :: hds) ((c, ts) :: l)
  | as {x n : Str} {i : Nat} {c : Value} {ts : Addr → Value → Option Addr → TS} {b₀ : Stmt} {suite : List Stmt} {np pos' : Pos} {hds : List ExceptHandler} {l : List (Value × (Addr → Value → Option Addr → TS))} (hi : X.N[i]? = some n) (hln : X.env.kindOf n = some .local) (hc : Names X x c)
      (hsu : ∀ (a : Addr) (oe : Obj) (cls : Value) (d : Option Addr) (pn : List (Addr × Obj)), L2N.Zn cls d oe → (∃ vs, oe.data = .fields vs) → PSs (X.suite a ((a, oe) :: pn)) (b₀ :: suite) (ts a cls d)) (r : HdsP X hds l) : HdsP X (.ExceptHandler (some (.Name x np)) (some n) (b₀ :: suite) pos' :: hds) ((c, fun a cls d D σ H => ts a cls d (asEnds i D) (σ.set i (some (.ref a))) H) :: l)
section
variable {X : Cx} {body : List Stmt} {h₀ : ExceptHandler} {hds : List ExceptHandler} {l : List (Value × (Addr → Value → Option Addr → TS))} {pos : Pos} {tb : WX → TS} {Wout : WX}
theorem ps_tryP (hs : X.stack = X.env :: X.outer) (hf : X.env.frame = some X.env.locals) (hN : X.N.Nodup) (hex : X.ex = []) (tk : L2N.Takes X Wout)
    (hb : ∀ (W : WX) (pn : List (Addr × Obj)) (xe : Value → Shared → Prop), L2N.Takes (X.tr pn xe) W → PassesOwn (model X.prog X.w) X.A X.env xe → PSs (X.tr pn xe) body (tb W))
    (hh : HdsP X (h₀ :: hds) l) : PS X (.Try body (h₀ :: hds) [] [] pos) (fun D σ H => tb (wP X.K Wout D l) D σ H) := by
  refine ⟨fun pins s σ H D I h => ?_⟩
  have ok := I.ok
  have hfr : X.A.frames = some (X.env :: X.outer) := by rw [ok.frames, hs]
  refine wpAny_Try_except ?_
  refine wpAny_mono ((hb (wP X.K Wout D l) (X.pn ++ pins) (fun e s₁ => wpAny (model X.prog X.w) X.A (noteFrame e X.env) (fun _ s₂ => wpAny (model X.prog X.w) X.A (setFlight e none) (fun _ s₃ =>
    wpAny (model X.prog X.w) X.A (handleBy e X.env (h₀ :: hds)) (SP X pins D) X.xe s₃) X.xe s₂) X.xe s₁) (fun u s' xx => ?_) PassesOwn.looking).run [] s σ H D (I.toTry _) h) (fun f s1 hsp => ?_) (fun e s1 he => he)
  · obtain ⟨a, B, sI, pins', σ', H', cls, d, rfl, J', nb, up, sky, na, os, ag, w⟩ := xx
    have J : Inv X pins σ' H' sI := J'.ofTry ok
    have sky' : Sky B (X.env :: X.outer) a (L2N.Zn cls d) X.env.locals s'.heap := by rw [← hs]; exact sky
    show wpAny (model X.prog X.w) X.A (noteFrame (.ref a) X.env) _ _ _
    refine L2N.Sky.land L2N.Zn.steady hfr hf sky' fun h3 fl3 up3 => ?_
    have J3 : Inv X pins σ' H' { s' with heap := h3 } := J.landed nb fl3.1 (up.trans up3) os ag
    obtain ⟨oe3, vs3, he3, hz3, hd3⟩ := fl3.there
    have notFr : ∀ {h : Heap} {o : Obj} {vs : Array Value}, h.FunFrames B (X.env :: X.outer) → h.get? a = some o → o.data = .fields vs → a ∉ frs (X.env :: X.outer) := fun {h o vs} ff e dd hm => by
      obtain ⟨_, o', e', hnf⟩ := ff.mem hm
      rw [e] at e'; cases e'
      exact hnf _ dd
    have nfr := notFr fl3.2.2.1 he3 hd3
    have nL : a ≠ X.env.locals := fun z => nfr (List.mem_filterMap.mpr ⟨X.env, List.mem_cons_self, by rw [hf, z]⟩)
    have nF : a ∉ X.fs := fun hm => by
      obtain ⟨e, he, q⟩ := List.mem_filterMap.mp hm
      exact nfr (List.mem_filterMap.mpr ⟨e, List.mem_cons_of_mem _ he, q⟩)
    have hpn := pnOk_of J nb fl3.2.1
    have h0 : X.s_0.heap.get? a = none := by
      cases q : X.s_0.heap.get? a with
      | none => rfl
      | some o =>
        obtain ⟨o', e1⟩ := J.base.there a o q (by rw [hex]; intro z; cases z)
        have := nb a o' e1 (by rw [hs]; exact nfr)
        rw [fl3.2.1] at this; cases this
    have S3 := J3.suite he3 hd3 na nL nF
    have go : ∀ {hds' : List ExceptHandler} {l' : List (Value × (Addr → Value → Option Addr → TS))}, HdsP X hds' l' → wP X.K Wout D l' cls d σ' H' →
        wpAny (model X.prog X.w) X.A (handleBy (.ref a) X.env hds') (SP X pins D) X.xe { s' with heap := h3 } := by
      intro hds' l' hk
      induction hk with
      | nil =>
        intro w
        refine wpAny_handleBy_nil ?_
        obtain ⟨k1, k2, k3, oe, vs, T, oT, ts', he, hz, hd, h1, hr⟩ := id fl3
        unfold PySem.passOn
        refine wpAny_bind (wpAny_field he hd h1 ?_)
        rw [if_neg (show ¬ ((Value.ref T == Value.none) = true) from by simp)]
        have fin : wpAny (model X.prog X.w) X.A (setFlight (.ref a) X.env.frame) (fun _ s4 => wpAny (model X.prog X.w) X.A (throw (.ref a) : Sem Flow) (SP X pins D) X.xe s4) X.xe { s' with heap := h3 } := by
          rw [hf]
          refine HandSPX.setFlight_upZ fl3 fun h4 hh4 up4 => wpAny_throw (tk _ _ ?_)
          exact ⟨a, B, sI, pins, σ', H', cls, d, rfl, J, nb, (up.trans up3).trans up4, .inr (.inr (by rw [hs]; exact hh4)), na, os, ag, w⟩
        first
          | exact wpAny_bind (wpAny_pure (wpAny_bind fin))
          | exact wpAny_bind fin
      | @one x c ts b₀ suite np pos' hds2 l2 hc hsu r ih =>
        intro w
        obtain ⟨b, hb1, hyes, hno⟩ := w
        refine wpAny_handleBy_cons (codeAny_handlers_test ?_) (by intro q; cases q)
        have LT : PySem.W.Looks (model X.prog X.w) h3 (typeOf (.ref a)) cls := fun A Q E s k q => wpAny_typeOf_ref (k _ _ he3) (by rw [hz3.1]; exact q)
        have LM := PySem.W.exm_one (M := model X.prog X.w) (J3.kIn) LT hb1
        have test : ∀ {Q : Value → Shared → Prop} {E : Value → Shared → Prop}, Q c { s' with heap := h3 } → wpAny (model X.prog X.w) (X.A.mark (some (.ref a))) (eval (.Name x np) X.env) Q E { s' with heap := h3 } := fun {Q E} q => by
          obtain ⟨hg, hdbg, hm | ⟨hm, hv, hnn⟩⟩ := hc
          · exact ld_glob (X := X.suite a ((a, oe3) :: (X.pn ++ pins))) S3 hg hm q hdbg
          · exact ld_blt (X := X.suite a ((a, oe3) :: (X.pn ++ pins))) S3 hg hm hv q hnn hdbg
        refine test (LM.here ?_)
        cases b with
        | true =>
          refine codeAny_handlers_suite ?_
          refine HandSPX.lands_againZ fl3 fun h4 fl4 up4 => ?_
          have J4 : Inv X pins σ' H' { s' with heap := h4 } := J.landed nb fl4.1 ((up.trans up3).trans up4) os ag
          obtain ⟨oe4, vs4, he4, hz4, hd4⟩ := fl4.there
          have S4 := J4.suite he4 hd4 na nL nF
          refine wpAny_mono ((hsu a oe4 cls d (X.pn ++ pins) hz4 ⟨_, hd4⟩).run [] _ _ H' _ S4 (hyes rfl a na)) (fun f s6 hsp => ?_) (fun _ _ z => False.elim z)
          cases f with
          | next =>
            obtain ⟨σ6, H6, S6, q6⟩ := hsp
            exact ⟨_, _, S6.unsuite ok, q6⟩
          | brk =>
            obtain ⟨σ6, H6, S6, q6⟩ := hsp
            exact ⟨_, _, S6.unsuite ok, q6⟩
          | cont =>
            obtain ⟨σ6, H6, S6, q6⟩ := hsp
            exact ⟨_, _, S6.unsuite ok, q6⟩
          | ret u =>
            obtain ⟨v6, σ6, H6, S6, r6, q6⟩ := hsp
            exact ⟨_, _, _, S6.unsuite ok, r6, q6⟩
        | false =>
          show wpAny _ X.A (handleBy (.ref a) X.env hds2) _ _ _
          exact ih (hno rfl)
      | @as x n i c ts b₀ suite np pos' hds2 l2 hi hln hc hsu r ih =>
        intro w
        obtain ⟨b, hb1, hyes, hno⟩ := w
        have hloc : Loc X.env.scope n := .inl hln
        refine wpAny_handleBy_cons (codeAny_handlers_test ?_) (by intro q; cases q)
        have LT : PySem.W.Looks (model X.prog X.w) h3 (typeOf (.ref a)) cls := fun A Q E s k q => wpAny_typeOf_ref (k _ _ he3) (by rw [hz3.1]; exact q)
        have LM := PySem.W.exm_one (M := model X.prog X.w) (J3.kIn) LT hb1
        have test : ∀ {Q : Value → Shared → Prop} {E : Value → Shared → Prop}, Q c { s' with heap := h3 } → wpAny (model X.prog X.w) (X.A.mark (some (.ref a))) (eval (.Name x np) X.env) Q E { s' with heap := h3 } := fun {Q E} q => by
          obtain ⟨hg, hdbg, hm | ⟨hm, hv, hnn⟩⟩ := hc
          · exact ld_glob (X := X.suite a ((a, oe3) :: (X.pn ++ pins))) S3 hg hm q hdbg
          · exact ld_blt (X := X.suite a ((a, oe3) :: (X.pn ++ pins))) S3 hg hm hv q hnn hdbg
        refine test (LM.here ?_)
        cases b with
        | true =>
          refine codeAny_handlers_suite_as ?_
          refine HandSPX.lands_againZ fl3 fun h4 fl4 up4 => ?_
          have J4 : Inv X pins σ' H' { s' with heap := h4 } := J.landed nb fl4.1 ((up.trans up3).trans up4) os ag
          obtain ⟨oe4, vs4, he4, hz4, hd4⟩ := fl4.there
          have S4 := J4.suite he4 hd4 na nL nF
          refine store_ok (X := X.suite a ((a, oe4) :: (X.pn ++ pins))) (v := .ref a) S4 hN hi hloc rfl (fun s5 S5 => ?_) (.inr hln)
          refine wpAny_mono ((hsu a oe4 cls d (X.pn ++ pins) hz4 ⟨_, hd4⟩).run [] s5 _ H' _ S5 (hyes rfl a na)) (fun f s6 hsp => ?_) (fun _ _ z => False.elim z)
          have end_ : ∀ {σ6 : L2.St} {H6 : Hp} {Q : Shared → Prop}, Inv (X.suite a ((a, oe4) :: (X.pn ++ pins))) [] σ6 H6 s6 → (∀ s7, Inv X pins (σ6.set i none) H6 s7 → Q s7) →
              wpAny (model X.prog X.w) X.A (do bindName X.env n .none; unbindBehindTheSuite X.env n pos') (fun _ s7 => Q s7) X.xe s6 := fun {σ6 H6 Q} S6 hq => gone_ok (S6.unsuite ok) hN hi hln hq
          cases f with
          | next =>
            obtain ⟨σ6, H6, S6, q6⟩ := hsp
            exact end_ S6 fun s7 J7 => ⟨_, _, J7, q6⟩
          | brk =>
            obtain ⟨σ6, H6, S6, q6⟩ := hsp
            exact end_ S6 fun s7 J7 => ⟨_, _, J7, q6⟩
          | cont =>
            obtain ⟨σ6, H6, S6, q6⟩ := hsp
            exact end_ S6 fun s7 J7 => ⟨_, _, J7, q6⟩
          | ret u =>
            obtain ⟨v6, σ6, H6, S6, r6, q6⟩ := hsp
            exact end_ S6 fun s7 J7 => ⟨_, _, _, J7, r6, q6⟩
        | false =>
          show wpAny _ X.A (handleBy (.ref a) X.env hds2) _ _ _
          exact ih (hno rfl)
    exact go hh w
  · cases f with
    | next =>
      obtain ⟨σ', H', J', q⟩ := hsp
      exact wpAny_execs_nil ⟨σ', H', J'.ofTry ok, q⟩
    | brk =>
      obtain ⟨σ', H', J', q⟩ := hsp
      exact ⟨σ', H', J'.ofTry ok, q⟩
    | cont =>
      obtain ⟨σ', H', J', q⟩ := hsp
      exact ⟨σ', H', J'.ofTry ok, q⟩
    | ret u =>
      obtain ⟨v, σ', H', J', r, q⟩ := hsp
      exact ⟨v, σ', H', J'.ofTry ok, r, q⟩
end
/-- what is known of the exception in a suite -/
def Held (X : Cx) (C a : Addr) (fs : Option (List (Str × D))) : Prop := ∃ (oe : Obj) (od : Option Addr), (a, oe) ∈ X.pn ∧ L2N.Zn (.ref C) od oe ∧ (fs = none → od = none) ∧ (∃ vs, oe.data = .fields vs) ∧ L2H.Hot1 X.A (a, oe)
def HDP (X : Cx) (D : DEnds) : List (Value × Option Nat × List Stmt) → Addr → Option (List (Str × DL.D)) → List Sl → Prop
  | [] => D.ex
  | (c, none, su) :: l => fun C fs ρ => ∃ b, PySem.W.exmOne X.K (.ref C) c = some b ∧ (b = true → ∀ a pn, Held (X.suite a pn) C a fs → DSs (X.suite a pn) ρ su D.noex) ∧ (b = false → HDP X D l C fs ρ)
  | (c, some i, su) :: l => fun C fs ρ => ∃ b, PySem.W.exmOne X.K (.ref C) c = some b ∧ (b = true → ∀ a pn, Held (X.suite a pn) C a fs → DSs (X.suite a pn) (ρ.set i (.dat (.opq a))) su (D.as i)) ∧ (b = false → HDP X D l C fs ρ)
section
variable {X : Cx} {ρ : List Sl} {body : List Stmt} {h₀ : ExceptHandler} {hds : List ExceptHandler} {l : List (Value × Option Nat × List Stmt)} {pos : Pos} {D : DEnds}
def rdP (X : Cx) : List (Value × Option Nat × List Stmt) → List (Value × (Addr → Value → Option Addr → TS))
  | [] => []
  | (c, none, su) :: l => (c, fun a cls d De σ H => ∀ oe pn, L2N.Zn cls d oe → (∃ vs, oe.data = .fields vs) → SSs (X.suite a ((a, oe) :: pn)) su De σ H) :: rdP X l
  | (c, some i, su) :: l => (c, fun a cls d De σ H => ∀ oe pn, L2N.Zn cls d oe → (∃ vs, oe.data = .fields vs) → SSs (X.suite a ((a, oe) :: pn)) su (asEnds i De) (σ.set i (some (.ref a))) H) :: rdP X l
theorem HS.hdsP (h : HS X hds l) : HdsP X hds (rdP X l) := by
  induction h with
  | nil => exact .nil
  | one hc _ ih => exact .one hc (fun a oe cls d pn hz hf => ⟨fun pins s σ H D I h => (h oe pn hz hf).run pins s I⟩) ih
  | @as x n i c b₀ suite np pos' hds l hi hln hc _ ih => exact .as (ts := fun a cls d De σ H => ∀ oe pn, L2N.Zn cls d oe → (∃ vs, oe.data = .fields vs) → SSs (X.suite a ((a, oe) :: pn)) (b₀ :: suite) De σ H) hi hln hc (fun a oe cls d pn hz hf => ⟨fun pins s σ H D I h => (h oe pn hz hf).run pins s I⟩) ih
theorem ds_tryP (hs : X.stack = X.env :: X.outer) (hf : X.env.frame = some X.env.locals) (hN : X.N.Nodup) (hex : X.ex = []) (hh : HS X (h₀ :: hds) l)
    (hb : ∀ pn xe, PassesOwn (model X.prog X.w) X.A X.env xe → DSs (X.tr pn xe) ρ body { D with ex := HDP X D l }) : DS X ρ (.Try body (h₀ :: hds) [] [] pos) D := fun B O σ H H0 De W T A s0 Cv => by
  refine (ps_tryP (tb := fun W' De σ H => ∀ pn xe, L2N.Takes (X.tr pn xe) W' → PassesOwn (model X.prog X.w) X.A X.env xe → SSs (X.tr pn xe) body De σ H) hs hf hN hex T (fun W' pn xe T' P => ⟨fun pins s σ H D I h => (h pn xe T' P).run pins s I⟩) hh.hdsP).ss ?_
  intro pn xe T' P
  refine hb pn xe P B O σ H H0 De _ T' A s0 ⟨Cv.nx, Cv.rt, Cv.rm, Cv.bk, Cv.ct, fun C fs ρ' O' σ' H' od hD A' s' r => ?_⟩
  have hn : fs = none → od = none := fun e => by cases r with
    | none => rfl
    | some _ _ => cases e
  have go : ∀ l, HDP X D l C fs ρ' → wP X.K W De (rdP X l) (.ref C) od σ' H' := by
    intro l
    induction l with
    | nil => exact fun hD => Cv.ex _ _ _ _ _ _ _ hD A' s' r
    | cons q l ih =>
      obtain ⟨c, o, su⟩ := q
      cases o with
      | none =>
        rintro ⟨b, e, h1, h2⟩
        refine ⟨b, e, fun hb a na oe pn hz hv => ?_, fun hb => ih (h2 hb)⟩
        exact h1 hb a ((a, oe) :: pn) ⟨oe, od, List.mem_cons_self, hz, hn, hv, rfl, hv.imp fun vs e => ⟨e, hz.2.2 vs e⟩⟩ B O' σ' _ H0 De (fun _ _ _ _ => False) takes_noneN A' s' ⟨Cv.nx, Cv.rt, Cv.rm, Cv.bk, Cv.ct, fun C fs ρ O σ H od h => h.elim⟩
      | some i =>
        rintro ⟨b, e, h1, h2⟩
        refine ⟨b, e, fun hb a na oe pn hz hv => ?_, fun hb => ih (h2 hb)⟩
        obtain ⟨O2, hO, hS⟩ := A'.sl.set (DR.opq (K := X.K) (H := off (O' ++ B) H') a) i
        refine h1 hb a ((a, oe) :: pn) ⟨oe, od, List.mem_cons_self, hz, hn, hv, rfl, hv.imp fun vs e => ⟨e, hz.2.2 vs e⟩⟩ B O2 _ _ H0 (asEnds i De) (fun _ _ _ _ => False) takes_noneN (A'.sub hO hS) (s'.trans (off_sub hO)) ⟨fun ρ O σ H h A q => ?_, Cv.rt, Cv.rm, fun ρ O σ H h A q => ?_, fun ρ O σ H h A q => ?_, fun C fs ρ O σ H od h => h.elim⟩
        · obtain ⟨O3, h3, S3⟩ := A.sl.clrO i
          exact Cv.nx _ O3 _ _ h (A.sub h3 S3) (q.trans (off_sub h3))
        · obtain ⟨O3, h3, S3⟩ := A.sl.clrO i
          exact Cv.bk _ O3 _ _ h (A.sub h3 S3) (q.trans (off_sub h3))
        · obtain ⟨O3, h3, S3⟩ := A.sl.clrO i
          exact Cv.ct _ O3 _ _ h (A.sub h3 S3) (q.trans (off_sub h3))
  exact go l hD
end
end DL
set_option Elab.async false
set_option linter.all false
set_option maxRecDepth 100000
set_option maxHeartbeats 2000000
/-! DLE: an owned list lent to an expression whose answer holds no list; rows equal to themselves. -/
namespace DL
open PySem PySem.Spec PyProof.Rows L2
/-- scalars, tuples of scalars -/
def D.flt : D → Bool
  | .tup xs => xs.all D.scal
  | d => d.scal
theorem DRs.scal {K : PySem.W.Frag} {G G' : Hp} : ∀ {vs : List V} {ds : List D}, DRs K G vs ds → ds.all D.scal = true → DRs K G' vs ds
  | _, _, .nil, _ => .nil
  | _, _, .cons r h, e => by
    simp only [List.all_cons, Bool.and_eq_true] at e
    exact .cons (DR.scal r e.1) (DRs.scal h e.2)
theorem Slots.freezeL {K : PySem.W.Frag} {H G : Hp} {σ : L2.St} {ρ : List Sl} {O : List Addr} (h : Slots K H G σ ρ O) : ∀ {i : Nat} {xs : List D}, ρ[i]? = some (.own (.lst xs)) → ∃ a O', a ∈ O ∧ a ∉ O' ∧ (∃ vs, H a = some (.lst vs)) ∧ (∀ b, b ∈ O → b = a ∨ b ∈ O') ∧ (∀ b ∈ O', b ∈ O) ∧
    ∀ G', Same G G' → G' a = H a → Slots K H G' σ (ρ.set i (.dat (.lst xs))) O' := by
  induction h with
  | nil => intro i m e; simp at e
  | emp h ih =>
    intro i m e
    cases i with
    | zero => simp at e
    | succ i =>
      obtain ⟨a, O', h1, h2, hl, h3, h4, k⟩ := ih (by simpa using e)
      exact ⟨a, O', h1, h2, hl, h3, h4, fun G' s q => .emp (k G' s q)⟩
  | dat r h ih =>
    intro i m e
    cases i with
    | zero => simp at e
    | succ i =>
      obtain ⟨a, O', h1, h2, hl, h3, h4, k⟩ := ih (by simpa using e)
      exact ⟨a, O', h1, h2, hl, h3, h4, fun G' s q => .dat (r.mono s) (k G' s q)⟩
  | own e0 r n h ih =>
    intro i m e
    cases i with
    | zero =>
      simp at e; subst e
      refine ⟨_, _, List.mem_cons_self, n, ?_, fun b hb => List.mem_cons.mp hb, fun b hb => List.mem_cons_of_mem _ hb, fun G' s q => ?_⟩
      · cases r with
        | lst _ => exact ⟨_, e0⟩
      · exact .dat ((r.mono s).dr (q.trans e0)) (h.mono (fun _ _ _ z => z) s)
    | succ i =>
      obtain ⟨a, O', h1, h2, hl, h3, h4, k⟩ := ih (by simpa using e)
      refine ⟨a, _ :: O', List.mem_cons_of_mem _ h1, ?_, hl, ?_, ?_, fun G' s q => .own e0 (r.mono s) (fun z => n (h4 _ z)) (k G' s q)⟩
      · intro z
        rcases List.mem_cons.mp z with z | z
        · subst z; exact n h1
        · exact h2 z
      · intro b hb
        rcases List.mem_cons.mp hb with rfl | hb
        · exact .inr List.mem_cons_self
        · exact (h3 b hb).imp id (List.mem_cons_of_mem _)
      · intro b hb
        rcases List.mem_cons.mp hb with rfl | hb
        · exact List.mem_cons_self
        · exact List.mem_cons_of_mem _ (h4 b hb)
section
variable {X : Cx} {ρ : List Sl} {e : Expr} {d : D} {xs : List D}
theorem de_lend (i : Nat) (h : DE X (ρ.set i (.dat (.lst xs))) e d) (hd : d.flt = true) (hρ : ρ[i]? = some (.own (.lst xs)) := by rfl) : DE X ρ e d := fun B O σ H Q A k => by
  obtain ⟨a, O', h1, h2, ⟨vs0, hl⟩, h3, h4, q⟩ := A.sl.freezeL hρ
  have sb : Same (off (O ++ B) H) (off (O' ++ B) H) := off_sub fun b hb => (List.mem_append.mp hb).elim (fun q => List.mem_append_left _ (h4 b q)) (List.mem_append_right _)
  have ha : off (O' ++ B) H a = H a := off_ne fun z => (List.mem_append.mp z).elim h2 (A.dj a h1)
  have hS := q _ sb ha
  refine h B O' σ H Q ⟨hS, A.al, fun b hb => A.dj b (h4 b hb)⟩ fun v H' s r => k v H' s ?_
  cases d with
  | tup ys =>
    cases r with
    | tup hs hy =>
      rename_i p ws
      refine .tup ?_ (hy.scal hd)
      rcases hs with hs | hs
      · refine .inl ?_
        -- the tuple does not stand where the list stands
        have move : ∀ u, off (O' ++ B) H' p = some u → (∀ vs, u ≠ .lst vs) → off (O ++ B) H' p = some u := by
          intro u hu hne
          have hp : p ∉ O' ++ B := fun z => by rw [off_in z] at hu; cases hu
          rw [off_ne hp] at hu
          have hpO : p ∉ O := by
            intro z
            rcases h3 p z with rfl | z
            · have := s _ _ hl
              rw [hu] at this
              injection this with this
              exact hne vs0 this
            · exact hp (List.mem_append_left _ z)
          rw [off_ne fun z => (List.mem_append.mp z).elim hpO fun z => hp (List.mem_append_right _ z)]
          exact hu
        rcases hs with hs | ⟨o, hs⟩
        · exact .inl (move _ hs (fun vs e => by cases e))
        · exact .inr ⟨o, move _ hs (fun vs e => by cases e)⟩
      · exact .inr hs
  | non => exact r.scal rfl
  | bl b => exact r.scal rfl
  | int i => exact r.scal rfl
  | str x => exact r.scal rfl
  | _ => cases hd
end
end DL
set_option Elab.async false
set_option linter.all false
set_option maxRecDepth 100000
set_option maxHeartbeats 2000000
/-! DLF: the end's small facts. -/
namespace DL
open PySem PySem.Spec PyProof.Rows L2
/-- whether «except E» takes an error of the class C -/
theorem exm_of {K : PySem.W.Frag} {C S : Addr} {z : Bool} (h1 : PySem.W.subIn K (.ref S) (.type "BaseException") = some true) (h2 : PySem.W.isClsIn K S = true) (h3 : PySem.W.typeIn K (.ref S) = some (.type "type")) (h4 : PySem.W.subIn K (.ref C) (.ref S) = some z) :
    PySem.W.exmOne K (.ref C) (.ref S) = some z := by
  have e1 : (PySem.W.subIn K (.ref S) (.type "BaseException") == some true) = true := by rw [h1] <;> rfl
  have e2 : ((PySem.W.clsIn K S).isSome && PySem.W.typeIn K (.ref S) == some (.type "type")) = true := by
    have h2' : (PySem.W.clsIn K S).isSome = true := h2
    rw [h2', h3] <;> rfl
  show (if (PySem.W.subIn K (.ref S) (.type "BaseException") == some true) = true then (if ((PySem.W.clsIn K S).isSome && PySem.W.typeIn K (.ref S) == some (.type "type")) = true then PySem.W.subIn K (.ref C) (.ref S) else none) else none) = some z
  rw [if_pos e1, if_pos e2]
  exact h4
end DL
set_option Elab.async false
set_option linter.all false
set_option maxRecDepth 100000
set_option maxHeartbeats 4000000
namespace K47
open PySem PySem.Spec PyProof.Rows L2 DL
def top (i : Nat) : Stmt := PySem.Challenge.pw_eachitsshare_k47_first_break_told.main.body.getD i (.Pass ⟨0, 0, 0, 0⟩)
abbrev s_cell : Stmt := top 17
abbrev s_digits : Stmt := top 18
structure Txt (K : PySem.W.Frag) (mg : Str → Option Value) : Prop where
  len : mg "len" = none
  int : mg "int" = none
  abs : mg "abs" = none
  range : mg "range" = none
section
variable {P : Program} {w : World} {K : PySem.W.Frag} {mg : Str → Option Value} {base : Heap}
theorem sc_cell : FnScope ["script", "k"] ["script", "k"] (defScope s_cell) := ⟨rfl, rfl, rfl, by decide +kernel, rfl, by decide +kernel, by decide +kernel⟩
def cellN (ns : List Int) (k : Nat) : Int := ns.getD k 0
def RCell (ds : List D) (out : Out) : Prop := ∃ (ns : List Int) (k : Nat), ds = [.lst (ns.map .int), .int k] ∧ out = .val (.int (cellN ns k))
theorem ok_cell {f : Addr} {fd : FuncData} (F : Fun K "_law_cell" "_law_cell" s_cell f fd) (T : Txt K mg) : FnOk P w K mg base CX0 1 f fd ["script", "k"] (spD K RCell) := by
  refine dfn F sc_cell (fun ds out h => ?_) (fun ds out h cdv A outer s H E hr => ?_)
  · obtain ⟨ns, k, rfl, rfl⟩ := h; exact ⟨rfl, nofun⟩
  · obtain ⟨ns, k, rfl, rfl⟩ := h
    refine dss_st (ds_if (dt_cmp c_lt (de_var 1) (de_lenL T.len (de_var 0))) (fun hz => ?_) (fun hz => ?_))
    · have hz : k < ns.length := by simpa using hz
      refine dss_st (ds_ret (de_int1 T.int (de_ixL (de_var 0) (de_var 1) (d := .int (cellN ns k)) ?_)) rfl)
      refine atI_nat ?_
      simp [cellN, hz]
    · have hz : ns.length ≤ k := by simpa using hz
      refine dss_nil (dss_st (ds_ret de_int ?_))
      show D.int 0 = _
      simp [cellN, hz]
end
end K47
set_option Elab.async false
set_option linter.all false
set_option maxRecDepth 100000
set_option maxHeartbeats 4000000
namespace K47
open PySem PySem.Spec PyProof.Rows L2 DL
local macro_rules | `(tactic| walk_at "le") => `(tactic| (first | exact trivial | exact ⟨.inl rfl, by walk_at "le"⟩ | exact ⟨.inr ⟨rfl, rfl⟩, by walk_at "le"⟩))
section
variable {P : Program} {w : World} {K : PySem.W.Frag} {mg : Str → Option Value} {base : Heap}
theorem sc_digits : FnScope ["cell", "sizes", "salt", "digits", "rest", "k", "mixed"] ["cell", "sizes", "salt"] (defScope s_digits) := ⟨rfl, rfl, rfl, by decide +kernel, rfl, by decide +kernel, by decide +kernel⟩
def absI (c : Int) : Int := if c < 0 then -c else c
def mix1 (rest salt : Int) (k : Nat) : Int := ((rest + 7 * salt + 1) * 48271 + (k : Int) * 69621) % 2147483647
def mix2 (m salt : Int) (k : Nat) : Int := (m * (40692 + m % 7919) + salt * 9973 + (k : Int)) % 2147483399
def digGo (big : Bool) (salt : Int) : Nat → Int → List Int → List Int
  | _, _, [] => []
  | k, rest, s :: ss => (if big = true then rest % s else (mix2 (mix1 rest salt k) salt k / 64) % s) :: digGo big salt (k + 1) (if big = true then rest / s else rest) ss
def digits (cell : Int) (sizes : List Int) (salt : Int) : List Int := digGo (decide ((10:Int) ^ 18 ≤ absI cell)) salt 0 (absI cell) sizes
theorem digGo_len (big : Bool) (salt : Int) : ∀ (k : Nat) (rest : Int) (ss : List Int), (digGo big salt k rest ss).length = ss.length
  | _, _, [] => rfl
  | k, rest, s :: ss => by simp [digGo, digGo_len big salt]
theorem digits_len (cell : Int) (sizes : List Int) (salt : Int) : (digits cell sizes salt).length = sizes.length := digGo_len _ _ _ _ _
theorem digGo_lt (big : Bool) (salt : Int) : ∀ (k : Nat) (rest : Int) (ss : List Int), (∀ s ∈ ss, 0 < s) → ∀ (i : Nat) (s : Int), ss[i]? = some s → ∃ d, (digGo big salt k rest ss)[i]? = some d ∧ 0 ≤ d ∧ d < s
  | _, _, [], _, i, s, h => by simp at h
  | k, rest, s0 :: ss, hp, 0, s, h => by
    simp at h; subst h
    have h0 : 0 < s0 := hp s0 (by simp)
    refine ⟨_, rfl, ?_⟩
    split
    · exact ⟨Int.emod_nonneg _ (by omega), Int.emod_lt_of_pos _ h0⟩
    · exact ⟨Int.emod_nonneg _ (by omega), Int.emod_lt_of_pos _ h0⟩
  | k, rest, s0 :: ss, hp, i + 1, s, h => by
    simp at h
    exact digGo_lt big salt (k + 1) _ ss (fun s hs => hp s (by simp [hs])) i s h
def RDigits (ds : List D) (out : Out) : Prop := ∃ (c : Int) (ss : List Int) (salt : Nat), ds = [.int c, .lst (ss.map .int), .int salt] ∧ (∀ s ∈ ss, 0 < s ∧ s < 1073741824) ∧ salt ≤ 1000 ∧ ss.length ≤ 1000 ∧ out = .new (.lst ((digits c ss salt).map .int))
theorem ok_digits {f : Addr} {fd : FuncData} (F : Fun K "_law_digits" "_law_digits" s_digits f fd) (T : Txt K mg) : FnOk P w K mg base CX0 1 f fd ["cell", "sizes", "salt"] (spD K RDigits) := by
  refine dfn F sc_digits (fun ds out h => ?_) (fun ds out h cdv A outer s H E hr => ?_)
  · obtain ⟨_, _, _, rfl, _, _, _, rfl⟩ := h; exact ⟨rfl, nofun⟩
  · obtain ⟨c, ss, salt, rfl, hs, hsalt, hlen, rfl⟩ := h
    refine dss_st (ds_own 3 sc_digits.nd (df_lst da_nil) ?_)
    refine dss_st (ds_set 4 sc_digits.nd (de_abs T.abs (de_var 0)) ?_)
    refine dss_st (ds_range1 5 ss.length (fun k ρ => ∃ (acc : List Int) (rest : Int), acc.length = k ∧ 0 ≤ rest ∧ rest ≤ absI c ∧ digits c ss salt = acc ++ digGo (decide ((10:Int) ^ 18 ≤ absI c)) salt k rest (ss.drop k) ∧
      ρ = [.dat (.int c), .dat (.lst (ss.map .int)), .dat (.int salt), .own (.lst (acc.map .int)), .dat (.int rest), .emp, .emp])
      sc_digits.nd T.range PassesOwn.never rfl (de_lenL T.len (de_var 1)) (by simp) (by omega) ?_ ?_ ?_)
    · refine Up.intro ⟨[], absI c, rfl, ?_, Int.le_refl _, ?_, rfl⟩ (by walk_at "le")
      · unfold absI; split <;> omega
      · simp [digits]
    · rintro k ρ' hk ⟨acc, rest, hacc, hr0, hrc, heq, rfl⟩
      refine ⟨(by intro m h; cases h), ?_⟩
      obtain ⟨s0, hs0⟩ : ∃ s0, ss[k]? = some s0 := ⟨_, List.getElem?_eq_getElem hk⟩
      have hpos := hs s0 (List.mem_of_getElem? hs0)
      have hdrop : ss.drop k = s0 :: ss.drop (k + 1) := by
        rw [List.drop_eq_getElem_cons hk]
        rw [List.getElem?_eq_getElem hk] at hs0; cases hs0; rfl
      have hix : atI (ss.map D.int) (k : Int) = some (.int s0) := atI_nat (by simp [hs0])
      refine dss_st (ds_if (dt_cmp c_ge (de_abs T.abs (de_var 0)) (de_pow de_int de_int ⟨by decide, by decide, by decide⟩)) (fun hz => ?_) (fun hz => ?_))
      · have hz : (10:Int) ^ 18 ≤ absI c := of_decide_eq_true hz
        refine dss_st (ds_append 3 (de_mod (de_int1 T.int (de_var 4)) (de_ixL (de_var 1) (de_var 5) hix) hpos.1) ?_ ?_)
        · rw [List.length_map, hacc]; rw [sizeLine_eq]; omega
        refine dss_st (ds_set 4 sc_digits.nd (de_fdiv (de_var 4) (de_ixL (de_var 1) (de_var 5) hix) hpos) ?_)
        refine dss_nil (dss_nil (Up.intro ⟨acc ++ [rest % s0], rest / s0, ?_, ?_, ?_, ?_, rfl⟩ (by simp only [List.map_append]; walk_at "le")))
        · simp [hacc]
        · exact Int.ediv_nonneg hr0 (by omega)
        · exact Int.le_trans (Int.ediv_le_self _ hr0) hrc
        · rw [heq, hdrop, decide_eq_true hz]; simp [digGo]
      · have hz : ¬ (10:Int) ^ 18 ≤ absI c := of_decide_eq_false hz
        have hb : rest < 10 ^ 18 := by omega
        refine dss_st (ds_set 6 sc_digits.nd (de_mod (de_int1 T.int (de_add (de_mul (de_add (de_add (de_var 4) (de_mul de_int (de_var 2) (.inl (by decide)))) de_int) de_int (.inr (by decide))) (de_mul (de_var 5) de_int (.inr (by decide))))) de_int (by decide)) ?_)
        refine dss_st (ds_set 6 sc_digits.nd (de_mod (de_int1 T.int (de_add (de_add (de_mul (de_var 6) (de_add de_int (de_mod (de_int1 T.int (de_var 6)) de_int (by decide))) ?_) (de_mul (de_var 2) de_int (.inr (by decide)))) (de_var 5))) de_int (by decide)) ?_)
        · have h1 := Int.emod_nonneg ((rest + 7 * (salt:Int) + 1) * 48271 + (k:Int) * 69621) (b := 2147483647) (by decide)
          have h2 := Int.emod_lt_of_pos ((rest + 7 * (salt:Int) + 1) * 48271 + (k:Int) * 69621) (b := 2147483647) (by decide)
          left; omega
        refine dss_st (ds_append 3 (de_mod (de_int1 T.int (de_fdiv (de_var 6) de_int (by decide))) (de_ixL (de_var 1) (de_var 5) hix) hpos.1) ?_ ?_)
        · rw [List.length_map, hacc]; rw [sizeLine_eq]; omega
        refine dss_nil (dss_nil (Up.intro ⟨acc ++ [(mix2 (mix1 rest salt k) salt k / 64) % s0], rest, ?_, hr0, hrc, ?_, rfl⟩ (by simp only [List.map_append, mix1, mix2]; walk_at "le")))
        · simp [hacc]
        · rw [heq, hdrop, decide_eq_false hz]; simp [digGo]
    · rintro ρ' ⟨acc, rest, hacc, _, _, heq, rfl⟩
      refine dss_st (ds_retOwn 3 (m := .lst (acc.map .int)) ?_)
      show _ = _
      rw [heq, List.drop_of_length_le (Nat.le_refl _)]
      simp [digGo]
end
end K47
set_option Elab.async false
set_option linter.all false
set_option maxRecDepth 100000
set_option maxHeartbeats 4000000
namespace K47
open PySem PySem.Spec PyProof.Rows L2 DL
local macro_rules | `(tactic| walk_at "le") => `(tactic| (first | exact trivial | exact ⟨.inl rfl, by walk_at "le"⟩ | exact ⟨.inr ⟨rfl, rfl⟩, by walk_at "le"⟩))
abbrev s_same : Stmt := top 19
structure TxtI (K : PySem.W.Frag) (mg : Str → Option Value) : Prop where
  len : mg "len" = none
  range : mg "range" = none
  isi : mg "isinstance" = none
  int : mg "int" = none
  bool : mg "bool" = none
  str : mg "str" = none
  dict : mg "dict" = none
  tuple : mg "tuple" = none
  list : mg "list" = none
section
variable {P : Program} {w : World} {K : PySem.W.Frag} {mg : Str → Option Value} {base : Heap}
theorem sc_same : FnScope ["got", "due", "key", "k"] ["got", "due"] (defScope s_same) := ⟨rfl, rfl, rfl, by decide +kernel, rfl, by decide +kernel, by decide +kernel⟩
theorem ok_same1 (n : Nat) {f : Addr} {fd : FuncData} (F : Fun K "_law_same" "_law_same" s_same f fd) (b : Binds K fd ["got", "due"] []) (T : TxtI K mg) (hf : mg "_law_same" = some (.ref f))
    (ih : 0 < n → FnOk P w K mg base CX0 n f fd ["got", "due"] (spD K (RSame (n - 1)))) : FnOk P w K mg base CX0 (n + 1) f fd ["got", "due"] (spD K (RSame n)) := by
  refine dfn F sc_same (fun ds out h => ?_) (fun ds out h cdv A outer s H E hr => ?_)
  · obtain ⟨_, _, rfl, _, _, _, rfl⟩ := h; exact ⟨rfl, nofun⟩
  · obtain ⟨g, d, rfl, hg, hd, hn, rfl⟩ := h
    -- due is None
    refine dss_st (ds_if (dt_cmp c_isN (de_var 1) de_non) (fun hz => ?_) (fun hz => ?_))
    · have e : d = .non := by cases d <;> first | rfl | cases hz
      subst e
      refine dss_st (ds_ret (de_cmp c_isN (de_var 0) de_non) ?_)
      show D.bl _ = D.bl _
      simp only [sameD]
    have h0 := hz
    refine dss_nil (dss_st (ds_if (dt_cmp c_isB (de_var 1) de_bl) (fun hz => ?_) (fun hz => ?_)))
    · have e : d = .bl true := by
        cases d with
        | bl b => cases b <;> first | rfl | exact absurd hz (by decide)
        | _ => cases hz
      subst e
      refine dss_st (ds_ret (de_cmp c_isB (de_var 0) de_bl) ?_)
      show D.bl _ = D.bl _
      simp only [sameD]
    have h1 := hz
    refine dss_nil (dss_st (ds_if (dt_cmp c_isB (de_var 1) de_bl) (fun hz => ?_) (fun hz => ?_)))
    · have e : d = .bl false := by
        cases d with
        | bl b => cases b <;> first | rfl | exact absurd hz (by decide)
        | _ => cases hz
      subst e
      refine dss_st (ds_ret (de_cmp c_isB (de_var 0) de_bl) ?_)
      show D.bl _ = D.bl _
      simp only [sameD]
    have h2 := hz
    have hnb : d.isBl = false := by
      cases d with
      | bl b => cases b <;> first | (revert h1; decide) | (revert h2; decide)
      | _ => rfl
    -- isinstance(due, int)
    refine dss_nil (dss_st (ds_if (dt_val (de_isi T.isi (de_var 1) (de_bltn (by rfl) T.int (by decide +kernel)) (D.tyd hd) (kit_int hd))) (fun hz => ?_) (fun hz => ?_)))
    · obtain ⟨i, rfl⟩ : ∃ i, d = .int i := by cases d <;> first | exact ⟨_, rfl⟩ | (simp [D.sel] at hz; done) | (simp [D.sel] at hnb; done)
      refine dss_st (ds_ret (de_and (de_isi T.isi (de_var 0) (de_bltn (by rfl) T.int (by decide +kernel)) (D.tyd hg) (kit_int hg)) (fun hi => de_and (de_not (de_isi T.isi (de_var 0) (de_bltn (by rfl) T.bool (by decide +kernel)) (D.tyd hg) (kit_bool hg))) (fun hb => de_one (de_cmp (c_eqDI hi (by simpa using hb)) (de_var 0) (de_var 1))))) ?_)
      show D.bl _ = D.bl _
      cases g <;> simp [sameD, D.sel, D.eqI, D.eqS]
    have h3 := hz
    refine dss_nil (dss_st (ds_if (dt_val (de_isi T.isi (de_var 1) (de_bltn (by rfl) T.str (by decide +kernel)) (D.tyd hd) (kit_str hd))) (fun hz => ?_) (fun hz => ?_)))
    · obtain ⟨i, rfl⟩ : ∃ i, d = .str i := by cases d <;> first | exact ⟨_, rfl⟩ | (simp [D.sel] at hz; done)
      refine dss_st (ds_ret (de_and (de_isi T.isi (de_var 0) (de_bltn (by rfl) T.str (by decide +kernel)) (D.tyd hg) (kit_str hg)) (fun hi => de_one (de_cmp (c_eqDS hi) (de_var 0) (de_var 1)))) ?_)
      show D.bl _ = D.bl _
      cases g <;> simp [sameD, D.sel, D.eqI, D.eqS]
    have h4 := hz
    refine dss_nil (dss_st (ds_ifF (dt_val (de_isi (m := "dict") T.isi (de_var 1) (de_bltn (by rfl) T.dict (by decide +kernel)) (D.tyd hd) (by have := kit_dict (K := K) hd; cases d <;> first | exact this | (simp [D.ok] at hd)))) ?_))
    refine dss_nil (dss_st (ds_if (dw_or (dw_and (dt_val (de_isi T.isi (de_var 1) (de_bltn (by rfl) T.tuple (by decide +kernel)) (D.tyd hd) (kit_tuple hd))) (fun _ => dw_and1 (dt_not (dt_val (de_isi T.isi (de_var 0) (de_bltn (by rfl) T.tuple (by decide +kernel)) (D.tyd hg) (kit_tuple hg)))))).dt
      (fun _ => dw_or1 (dw_and (dt_val (de_isi T.isi (de_var 1) (de_bltn (by rfl) T.list (by decide +kernel)) (D.tyd hd) (kit_list hd))) (fun _ => dw_and1 (dt_not (dt_val (de_isi T.isi (de_var 0) (de_bltn (by rfl) T.list (by decide +kernel)) (D.tyd hg) (kit_list hg)))))).dt)).dt (fun hz => ?_) (fun hz => ?_)))
    · refine dss_st (ds_ret de_bl ?_)
      show D.bl _ = D.bl _
      cases d <;> cases g <;> first | (revert hz; decide) | rfl | (simp [D.ok] at hd; done) | (simp [D.ok] at hg; done) | (simp [D.sel] at hz; done) | skip
    have h5 := hz
    obtain ⟨gs, ds, hgd⟩ : ∃ gs ds, (g = .lst gs ∧ d = .lst ds) ∨ (g = .tup gs ∧ d = .tup ds) := by
      cases d with
      | lst ds => cases g with
        | lst gs => exact ⟨gs, ds, .inl ⟨rfl, rfl⟩⟩
        | _ => revert h5; simp [D.sel]
      | tup ds => cases g with
        | tup gs => exact ⟨gs, ds, .inr ⟨rfl, rfl⟩⟩
        | _ => revert h5; simp [D.sel]
      | non => cases h0
      | bl b => cases hnb
      | int i => cases h3
      | str i => cases h4
      | _ => simp [D.ok] at hd
    have hsame : sameD g d = sameDs gs ds := by rcases hgd with ⟨rfl, rfl⟩ | ⟨rfl, rfl⟩ <;> rfl
    have hn0 : D.deps ds + 1 ≤ n := by rcases hgd with ⟨rfl, rfl⟩ | ⟨rfl, rfl⟩ <;> exact hn
    have hgo : D.oks gs = true := by rcases hgd with ⟨rfl, rfl⟩ | ⟨rfl, rfl⟩ <;> simpa [D.ok] using hg
    have hdo : D.oks ds = true := by rcases hgd with ⟨rfl, rfl⟩ | ⟨rfl, rfl⟩ <;> simpa [D.ok] using hd
    refine dss_nil (dss_st (ds_if (dt_cmp c_ne (de_len T.len (de_var 0) (n := gs.length) (xs := gs) (by rcases hgd with ⟨rfl, rfl⟩ | ⟨rfl, rfl⟩ <;> simp)) (de_len T.len (de_var 1) (n := ds.length) (xs := ds) (by rcases hgd with ⟨rfl, rfl⟩ | ⟨rfl, rfl⟩ <;> simp))) (fun hz => ?_) (fun hz => ?_)))
    · refine dss_st (ds_ret de_bl ?_)
      show D.bl _ = D.bl _
      rw [hsame, sameDs_len (by simp at hz; omega)]
    have hlen : gs.length = ds.length := by simp at hz; omega
    refine dss_nil ?_
    refine dss_lenLT 1 (d := d) (xs := ds) (by rcases hgd with ⟨rfl, rfl⟩ | ⟨rfl, rfl⟩ <;> first | exact .inl rfl | exact .inr rfl) (fun hsz => ?_)
    refine dss_st (ds_range1 3 ds.length (fun k ρ => (∀ (j : Nat) g' d', j < k → gs[j]? = some g' → ds[j]? = some d' → sameD g' d' = true) ∧ ρ = [.dat g, .dat d, .emp, .emp])
      sc_same.nd T.range PassesOwn.never rfl (de_len T.len (de_var 1) (n := ds.length) (xs := ds) (by rcases hgd with ⟨rfl, rfl⟩ | ⟨rfl, rfl⟩ <;> simp)) rfl (by rw [sizeLine_eq] at hsz; omega) (Up.intro ⟨(by intro j _ _ h; omega), rfl⟩ (by walk_at "le")) ?_ ?_)
    · rintro k ρ' hk ⟨hall, rfl⟩
      refine ⟨(by intro m h; cases h), ?_⟩
      obtain ⟨g1, hg1⟩ : ∃ g1, gs[k]? = some g1 := ⟨_, List.getElem?_eq_getElem (by omega)⟩
      obtain ⟨d1, hd1⟩ : ∃ d1, ds[k]? = some d1 := ⟨_, List.getElem?_eq_getElem (by omega)⟩
      have hdep := D.deps_get hd1
      have e1 : ∀ {p1 p2 p3}, DE (cxOf CX0 P w K mg base ["got", "due", "key", "k"] "_law_same" (defScope s_same) f cdv A outer s H E).nox [.dat g, .dat d, .emp, .dat (.int (k : Int))] (.Subscript (.Name "got" p1) (.Name "k" p2) p3) g1 := by
        intro p1 p2 p3
        rcases hgd with ⟨rfl, rfl⟩ | ⟨rfl, rfl⟩
        · exact de_ixL (de_var 0) (de_var 3) (atI_nat hg1)
        · exact de_ixT (de_var 0) (de_var 3) (atI_nat hg1)
      have e2 : ∀ {p1 p2 p3}, DE (cxOf CX0 P w K mg base ["got", "due", "key", "k"] "_law_same" (defScope s_same) f cdv A outer s H E).nox [.dat g, .dat d, .emp, .dat (.int (k : Int))] (.Subscript (.Name "due" p1) (.Name "k" p2) p3) d1 := by
        intro p1 p2 p3
        rcases hgd with ⟨rfl, rfl⟩ | ⟨rfl, rfl⟩
        · exact de_ixL (de_var 1) (de_var 3) (atI_nat hd1)
        · exact de_ixT (de_var 1) (de_var 3) (atI_nat hd1)
      refine dss_st (ds_if (dt_not (dt_val (de_call (ih (by omega)) hr hf F.kp b pass0 (da_cons e1 (da_cons e2 da_nil)) ⟨g1, d1, rfl, D.oks_get hgo hg1, D.oks_get hdo hd1, by omega, rfl⟩))) (fun hz => ?_) (fun hz => ?_))
      · have hz : sameD g1 d1 = false := by simpa using hz
        refine dss_st (ds_ret de_bl ?_)
        show D.bl _ = D.bl _
        rw [hsame, sameDs_one hg1 hd1 hz]
      · have hz : sameD g1 d1 = true := by simpa using hz
        refine dss_nil (dss_nil (Up.intro ⟨?_, rfl⟩ (by walk_at "le")))
        intro j g' d' hj h1' h2'
        by_cases hjk : j < k
        · exact hall j g' d' hjk h1' h2'
        · have : j = k := by omega
          subst this
          rw [hg1] at h1'; rw [hd1] at h2'
          cases h1'; cases h2'; exact hz
    · rintro ρ' ⟨hall, rfl⟩
      refine dss_st (ds_ret de_bl ?_)
      show D.bl _ = D.bl _
      rw [hsame, sameDs_all hlen (fun k g' d' h1' h2' => hall k g' d' (by have := (List.getElem?_eq_some_iff.mp h2').1; exact this) h1' h2')]
theorem ok_same {f : Addr} {fd : FuncData} (F : Fun K "_law_same" "_law_same" s_same f fd) (b : Binds K fd ["got", "due"] []) (T : TxtI K mg) (hf : mg "_law_same" = some (.ref f)) : ∀ n : Nat, FnOk P w K mg base CX0 (n + 1) f fd ["got", "due"] (spD K (RSame n))
  | 0 => ok_same1 0 F b T hf (fun h => by omega)
  | n + 1 => ok_same1 (n + 1) F b T hf (fun _ => ok_same F b T hf n)
end
end K47
set_option Elab.async false
set_option linter.all false
set_option maxRecDepth 100000
set_option maxHeartbeats 4000000
namespace K47
open PySem PySem.Spec PyProof.Rows L2 DL
local macro_rules | `(tactic| walk_at "le") => `(tactic| (first | exact trivial | exact ⟨.inl rfl, by walk_at "le"⟩ | exact ⟨.inr ⟨rfl, rfl⟩, by walk_at "le"⟩))
abbrev s_only : Stmt := top 20
def kindNames : List Str := ["BadCode", "BadName", "BadNumber", "BadText", "NoRoom", "NotFree", "StaleKey", "TooMany"]
/-- what is known of the eight classes and of the one at C, named word -/
structure TxtE (K : PySem.W.Frag) (mg : Str → Option Value) (word : Str) (C : Addr) : Prop where
  range : mg "range" = none
  isi : mg "isinstance" = none
  ve : mg "ValueError" = none
  exc : ExcC K C
  cls : ∀ x ∈ kindNames, ∃ E, mg x = some (.ref E) ∧ PySem.W.kitOne K (.ref C) (.ref E) = some (decide (x = word))
  share : ∃ E, mg "ShareError" = some (.ref E) ∧ PySem.W.kitOne K (.ref C) (.ref E) = some true
  val : PySem.W.kitOne K (.ref C) (.type "ValueError") = some true
section
variable {P : Program} {w : World} {K : PySem.W.Frag} {mg : Str → Option Value} {base : Heap} {word : Str} {C : Addr}
theorem sc_only : FnScope ["e", "word", "kinds", "names", "k"] ["e", "word"] (defScope s_only) := ⟨rfl, rfl, rfl, by decide +kernel, rfl, by decide +kernel, by decide +kernel⟩
def ROnly (C : Addr) (word : Str) (ds : List D) (out : Out) : Prop := ds = [.exc C none, .str word] ∧ out = .val (.bl true)
theorem de_kind {X : Cx} {ρ : List Sl} (T : TxtE X.K X.mg word C) {x : Str} (hx : x ∈ kindNames) {p p' pos : Pos} {a : Expr} (h : DE X ρ a (.exc C none)) (hi : Gl X "isinstance" := by rfl) (hg : Gl X x := by rfl) (hd : (x == ("__debug__" : Str)) = false := by decide) 
    (hs : starEach [a, .Name x p'] X.env = [(false, eval a X.env), (false, eval (.Name x p') X.env)] := by rfl) :
    DE X ρ (.Call (.Name "isinstance" p) [a, .Name x p'] [] pos) (.bl (decide (x = word))) := by
  obtain ⟨E, e1, e2⟩ := T.cls x hx
  exact de_isX T.exc T.isi h (de_cls e1 hg hd) (.inr ⟨E, rfl, rfl⟩) e2 hi hs
theorem ok_only {f : Addr} {fd : FuncData} (F : Fun K "_law_only" "_law_only" s_only f fd) (T : TxtE K mg word C) : FnOk P w K mg base CX0 1 f fd ["e", "word"] (spD K (ROnly C word)) := by
  refine dfn F sc_only (fun ds out h => ?_) (fun ds out h cdv A outer s H E hr => ?_)
  · obtain ⟨rfl, rfl⟩ := h; exact ⟨rfl, nofun⟩
  · obtain ⟨rfl, rfl⟩ := h
    refine dss_st (ds_set 2 sc_only.nd (df_lst (da_cons (de_kind (x := "BadCode") T (by decide) (de_var 0)) (da_cons (de_kind (x := "BadName") T (by decide) (de_var 0)) (da_cons (de_kind (x := "BadNumber") T (by decide) (de_var 0)) (da_cons (de_kind (x := "BadText") T (by decide) (de_var 0)) da_nil))))).de ?_)
    refine dss_st (ds_set 2 sc_only.nd (df_cat (de_var 2) (df_lst (da_cons (de_kind (x := "NoRoom") T (by decide) (de_var 0)) (da_cons (de_kind (x := "NotFree") T (by decide) (de_var 0)) (da_cons (de_kind (x := "StaleKey") T (by decide) (de_var 0)) (da_cons (de_kind (x := "TooMany") T (by decide) (de_var 0)) da_nil))))).de (by show 4 + 4 ≤ sizeLine; decide)).de ?_)
    refine dss_st (ds_set 3 sc_only.nd (df_lst (da_cons de_str (da_cons de_str (da_cons de_str (da_cons de_str (da_cons de_str (da_cons de_str (da_cons de_str (da_cons de_str da_nil))))))))).de ?_)
    refine dss_st (ds_range1 4 8 (fun k ρ => ρ = [.dat (.exc C none), .dat (.str word), .dat (.lst (kindNames.map fun x => .bl (decide (x = word)))), .dat (.lst (kindNames.map .str)), .emp])
      sc_only.nd T.range PassesOwn.never rfl de_int rfl (by decide) (Up.intro rfl (by walk_at "le")) ?_ ?_)
    · rintro k ρ' hk rfl
      refine ⟨(by intro m h; cases h), ?_⟩
      obtain ⟨x, hx⟩ : ∃ x, kindNames[k]? = some x := ⟨_, List.getElem?_eq_getElem hk⟩
      refine dss_st (ds_ifF ((dt_cmp c_neB (de_ixL (de_var 2) (de_var 4) (atI_nat (by rw [List.getElem?_map, hx]; rfl))) (de_cmp c_eqS (de_ixL (de_var 3) (de_var 4) (atI_nat (by rw [List.getElem?_map, hx]; rfl))) (de_var 1))).eq (by simp)) ?_)
      exact dss_nil (dss_nil (Up.intro rfl (by walk_at "le")))
    · rintro ρ' rfl
      obtain ⟨E', e1, e2⟩ := T.share
      refine dss_st (ds_ret (de_and (de_isX T.exc T.isi (de_var 0) (de_cls e1 (by rfl) (by decide)) (.inr ⟨E', rfl, rfl⟩) e2) (fun _ => de_one (de_isX T.exc T.isi (de_var 0) (de_bltn (by rfl) T.ve (by decide +kernel)) (.inl ⟨"ValueError", rfl, rfl⟩) T.val))) ?_)
      rfl
end
end K47
set_option Elab.async false
set_option linter.all false
set_option maxRecDepth 100000
set_option maxHeartbeats 4000000
namespace K47
open PySem PySem.Spec PyProof.Rows L2 DL
local macro_rules | `(tactic| walk_at "le") => `(tactic| (first | exact trivial | exact ⟨.inl rfl, by walk_at "le"⟩ | exact ⟨.inr ⟨rfl, rfl⟩, by walk_at "le"⟩))
abbrev s_names : Stmt := top 21
def dI (ds : List Int) (i : Nat) : Int := ds.getD i 0
theorem dig_get (c : Int) {ss : List Int} (salt : Int) (hp : ∀ s ∈ ss, 0 < s) (i : Nat) {s : Int} (h : ss[i]? = some s) : (digits c ss salt)[i]? = some (dI (digits c ss salt) i) ∧ 0 ≤ dI (digits c ss salt) i ∧ dI (digits c ss salt) i < s := by
  obtain ⟨d, h1, h2, h3⟩ := digGo_lt (decide ((10:Int) ^ 18 ≤ absI c)) salt 0 (absI c) ss hp i s h
  have e : dI (digits c ss salt) i = d := by
    unfold dI; rw [List.getD_eq_getElem?_getD]
    show ((digGo _ _ _ _ _)[i]?).getD 0 = d
    rw [h1]; rfl
  rw [e]; exact ⟨h1, h2, h3⟩
theorem dig_at (c : Int) {ss : List Int} (salt : Int) (hp : ∀ s ∈ ss, 0 < s) (i : Nat) {s : Int} (h : ss[i]? = some s) : ((digits c ss salt).map D.int)[i]? = some (.int (dI (digits c ss salt) i)) := by
  rw [List.getElem?_map, (dig_get c salt hp i h).1]; rfl
def nm8 : List Int := [6, 6, 26, 26, 26, 26, 26, 26]
def abcS : Str := "abcdefghijklmnopqrstuvwxyz"
def letterS (i : Int) : Str := ⟨#[97 + i.toNat]⟩
theorem abc_at (i : Int) (h0 : 0 ≤ i) (h : i < 26) : atI abcS.cps.toList i = some (97 + i.toNat) := by
  have : ∀ k < 26, abcS.cps.toList[k]? = some (97 + k) := by decide +kernel
  exact atI_in h0 (this i.toNat (by omega))
def nmDg (c : Int) (k : Nat) : List Int := digits (c + (k : Int)) nm8 ((30 + k : Nat) : Int)
def name0 (dg : List Int) : Str := Txt.join (Str.ofString "") ((List.range (1 + dI dg 0).toNat).map fun (j : Nat) => letterS (dI dg (2 + j)))
def name1 (dg : List Int) (k : Nat) : Str := cutS (name0 dg) none (some (dI dg 1 % ((name0 dg).length : Int))) ++ letterS (k : Int) ++ cutS (name0 dg) (some (dI dg 1 % ((name0 dg).length : Int) + 1)) none
def nmY (ns : List Str) (c : Int) (k : Nat) : Str := if name1 (nmDg c k) k ∈ ns then name1 (nmDg c k) k ++ letterS (k : Int) else name1 (nmDg c k) k
def nmStep (ns : List Str) (c : Int) (k : Nat) : List Str := if nmY ns c k ∈ ns then ns else ns ++ [nmY ns c k]
def nmL (c : Int) : Nat → List Str
  | 0 => []
  | k + 1 => nmStep (nmL c k) c k
theorem letter_len (i : Int) : (letterS i).length = 1 := rfl
theorem name0_len (dg : List Int) : (name0 dg).length = (1 + dI dg 0).toNat := by
  unfold name0
  rw [PySem.W.KT.join_ones _ (by intro a ha; obtain ⟨j, _, rfl⟩ := List.mem_map.mp ha; rfl), List.length_map, List.length_range]
theorem cut_lo (z : Str) (n : Nat) (h : n ≤ z.length) : (cutS z none (some (n : Int))).length = n := by
  show (((z.cps.toList.drop (HT.sIx z.length 0 none)).take (HT.sIx z.length z.length (some (n : Int)) - HT.sIx z.length 0 none)).toArray).size = n
  rw [HT.sIx_nat]
  show (((z.cps.toList.drop 0).take (min n z.length - 0)).toArray).size = n
  rw [List.size_toArray, List.length_take, List.length_drop, Array.length_toList]
  have : z.cps.size = z.length := rfl
  omega
theorem cut_hi (z : Str) (n : Nat) (h : n ≤ z.length) : (cutS z (some (n : Int)) none).length = z.length - n := by
  show (((z.cps.toList.drop (HT.sIx z.length 0 (some (n : Int)))).take (HT.sIx z.length z.length none - HT.sIx z.length 0 (some (n : Int)))).toArray).size = _
  rw [HT.sIx_nat]
  show (((z.cps.toList.drop (min n z.length)).take (z.length - min n z.length)).toArray).size = _
  rw [List.size_toArray, List.length_take, List.length_drop, Array.length_toList]
  have : z.cps.size = z.length := rfl
  omega
theorem nmDg_get (c : Int) (k i : Nat) {s : Int} (h : nm8[i]? = some s) : ((nmDg c k).map D.int)[i]? = some (.int (dI (nmDg c k) i)) ∧ 0 ≤ dI (nmDg c k) i ∧ dI (nmDg c k) i < s :=
  ⟨dig_at _ _ (by decide) i h, (dig_get _ _ (by decide) i h).2⟩
theorem name1_len (c : Int) (k : Nat) : (name1 (nmDg c k) k).length = (name0 (nmDg c k)).length := by
  have h0 := nmDg_get c k 0 (s := 6) rfl
  have h1 := nmDg_get c k 1 (s := 6) rfl
  have hl := name0_len (nmDg c k)
  have hp : 0 < (name0 (nmDg c k)).length := by omega
  have m1 := Int.emod_nonneg (dI (nmDg c k) 1) (b := ((name0 (nmDg c k)).length : Int)) (by omega)
  have m2 := Int.emod_lt_of_pos (dI (nmDg c k) 1) (b := ((name0 (nmDg c k)).length : Int)) (by omega)
  obtain ⟨q, hq⟩ := Int.eq_ofNat_of_zero_le m1
  unfold name1
  rw [PySem.Str.length_append, PySem.Str.length_append, hq]
  rw [hq] at m2
  rw [cut_lo _ q (by omega), show ((q : Int) + 1) = ((q + 1 : Nat) : Int) by omega, cut_hi _ (q + 1) (by omega), letter_len]
  omega
theorem nmL_len (c : Int) : ∀ k, ∀ x ∈ nmL c k, x.length ≤ 7
  | 0, x, h => by simp [nmL] at h
  | k + 1, x, h => by
    have h0 := nmDg_get c k 0 (s := 6) rfl
    have hl := name0_len (nmDg c k)
    have h1 := name1_len c k
    have hy : (nmY (nmL c k) c k).length ≤ 7 := by
      unfold nmY
      split
      · rw [PySem.Str.length_append, letter_len]; omega
      · omega
    unfold nmL nmStep at h
    split at h
    · exact nmL_len c k x h
    · rcases List.mem_append.mp h with h | h
      · exact nmL_len c k x h
      · obtain rfl := List.mem_singleton.mp h
        exact hy
theorem nmL_count (c : Int) : ∀ k, (nmL c k).length ≤ k
  | 0 => Nat.le_refl _
  | k + 1 => by
    have := nmL_count c k
    unfold nmL nmStep
    split
    · omega
    · rw [List.length_append]; simp; omega
theorem nmL_pos (c : Int) : ∀ k, 0 < (nmL c (k + 1)).length
  | 0 => by
    unfold nmL nmStep
    simp [nmL]
  | k + 1 => by
    have := nmL_pos c k
    rw [nmL]; unfold nmStep
    split
    · exact this
    · rw [List.length_append]; omega
def RNames (ds : List D) (out : Out) : Prop := ∃ (c : Int) (many : Nat), ds = [.int c, .int many] ∧ many ≤ 26 ∧ out = .new (.lst ((nmL c many).map .str))
section
variable {P : Program} {w : World} {K : PySem.W.Frag} {mg : Str → Option Value} {base : Heap}
theorem sc_names : FnScope ["cell", "many", "letters", "names", "k", "digits", "j", "name", "place"] ["cell", "many"] (defScope s_names) := ⟨rfl, rfl, rfl, by decide +kernel, rfl, by decide +kernel, by decide +kernel⟩
theorem ok_names {f fD : Addr} {fd fdD : FuncData} (F : Fun K "_law_names" "_law_names" s_names f fd) (T : Txt K mg)
    (GD : FnOk P w K mg base CX0 1 fD fdD ["cell", "sizes", "salt"] (spD K RDigits)) (bD : Binds K fdD ["cell", "sizes", "salt"] []) (mD : mg "_law_digits" = some (.ref fD)) (kD : PySem.W.keepIn K (.ref fD) = true) :
    FnOk P w K mg base CX0 2 f fd ["cell", "many"] (spD K RNames) := by
  refine dfn F sc_names (fun ds out h => ?_) (fun ds out h cdv A outer s H E hr => ?_)
  · obtain ⟨_, _, rfl, _, rfl⟩ := h; exact ⟨rfl, nofun⟩
  · obtain ⟨c, many, rfl, hm, rfl⟩ := h
    refine dss_st (ds_set 2 sc_names.nd de_str ?_)
    refine dss_st (ds_own 3 sc_names.nd (df_lst da_nil) ?_)
    refine dss_st (ds_range1 4 many (fun k ρ => ρ = [.dat (.int c), .dat (.int many), .dat (.str abcS), .own (.lst ((nmL c k).map .str)), .emp, .emp, .emp, .emp, .emp])
      sc_names.nd T.range PassesOwn.never rfl (de_var 1) rfl (by omega) (Up.intro rfl (by walk_at "le")) ?_ ?_)
    · rintro k ρ' hk rfl
      refine ⟨(by intro m h; cases h), ?_⟩
      have hcount := nmL_count c k
      have hd := fun i s h => nmDg_get c k i (s := s) h
      have hd0 := hd 0 6 rfl
      have hd1 := hd 1 6 rfl
      have hl := name0_len (nmDg c k)
      refine dss_st (ds_set 5 sc_names.nd (df_call GD (by exact hr) mD kD bD pass0 (da_cons (de_add (de_var 0) (de_var 4)) (da_cons (df_lst (da_cons de_int (da_cons de_int (da_cons de_int (da_cons de_int (da_cons de_int (da_cons de_int (da_cons de_int (da_cons de_int da_nil))))))))).de (da_cons (de_add de_int (de_var 4)) da_nil)))
        (m := .lst ((nmDg c k).map .int)) ⟨c + k, nm8, 30 + k, rfl, by decide, by omega, by decide, rfl⟩).de ?_)
      refine dss_st (ds_set 7 sc_names.nd (de_join (ys := (List.range (1 + dI (nmDg c k) 0).toNat).map fun (j : Nat) => letterS (dI (nmDg c k) (2 + j))) de_str
        ((df_lc1 6 (items := List.range (1 + dI (nmDg c k) 0).toNat) (f := fun k => D.int (0 + (k : Int))) (fun _ => true) (fun j => .str (letterS (dI (nmDg c k) (2 + j)))) rfl sc_names.nd
          (di_range1 T.range (de_add de_int (de_ixL (de_var 5) de_int (atI_nat hd0.1))) (by omega) (by omega)) rfl (by rw [List.length_range, sizeLine_eq]; omega)
          (fun j hj s' H' C cl fp => ⟨dts_nil, fun _ => ?_⟩)).de.eq ?_) ?_) ?_)
      · have hj := List.mem_range.mp hj
        obtain ⟨s0, hs0⟩ : ∃ s0, nm8[2 + j]? = some s0 := ⟨_, List.getElem?_eq_getElem (by show 2 + j < 8; omega)⟩
        have hs26 : s0 = 26 := by
          have : ∀ j < 6, nm8[2 + j]? = some 26 := by decide
          have := this j (by omega)
          rw [hs0] at this; cases this; rfl
        have hdj := hd (2 + j) s0 hs0
        refine (de_ixS (de_var 2) (de_ixL (de_var 5) (de_add de_int (de_var 6)) (d := .int (dI (nmDg c k) (2 + j))) (by rw [show ((2 : Int) + (0 + (j : Int))) = ((2 + j : Nat) : Int) by omega]; exact atI_nat hdj.1)) (by decide +kernel) (abc_at _ hdj.2.1 (by omega)))
      · show D.lst _ = D.lst _
        rw [List.filter_eq_self.mpr (by simp), List.map_map]; rfl
      · rw [List.map_map, List.length_map, List.length_range]
        have : (List.map ((fun x => x.length) ∘ fun j => letterS (dI (nmDg c k) (2 + j))) (List.range (1 + dI (nmDg c k) 0).toNat)) = List.replicate (1 + dI (nmDg c k) 0).toNat 1 := by
          rw [List.eq_replicate_iff]
          exact ⟨by simp, by intro b hb; obtain ⟨_, _, rfl⟩ := List.mem_map.mp hb; rfl⟩
        have sr : ∀ n : Nat, (List.replicate n 1).sum = n := by intro n; induction n with
          | zero => rfl
          | succ n ih => rw [List.replicate_succ, List.sum_cons, ih]; omega
        rw [this, sr]
        show _ + _ * 0 ≤ _
        omega
      have hz : (name0 (nmDg c k)).length ≤ sizeLine := by rw [sizeLine_eq]; omega
      refine dss_st (ds_set 8 sc_names.nd (de_mod (de_int1 T.int (de_ixL (de_var 5) de_int (atI_nat hd1.1))) (de_lenS T.len (de_var 7) hz) (by show (0 : Int) < ((name0 (nmDg c k)).length : Int); omega)) ?_)
      have hn1 := name1_len c k
      have hc1 := cutS_length (name0 (nmDg c k)) none (some (dI (nmDg c k) 1 % ((name0 (nmDg c k)).length : Int)))
      have hc2 := cutS_length (name0 (nmDg c k)) (some (dI (nmDg c k) 1 % ((name0 (nmDg c k)).length : Int) + 1)) none
      have e1 : ∀ {pp : Pos} {pp2 : Pos} {pp3 : Pos} {ρ' : List Sl}, ρ'[2]? = some (.dat (.str abcS)) → ρ'[4]? = some (.dat (.int (k : Int))) → DE (cxOf CX0 P w K mg base ["cell", "many", "letters", "names", "k", "digits", "j", "name", "place"] "_law_names" (defScope s_names) f cdv A outer s H E).nox ρ' (.Subscript (.Name "letters" pp) (.Name "k" pp2) pp3) (.str (letterS (k : Int))) := fun h2 h4 =>
        de_ixS (de_var 2 h2) (de_var 4 h4) (by decide +kernel) (abc_at _ (by omega) (by omega))
      refine dss_st (ds_set 7 sc_names.nd (de_addS (de_addS (de_slS (de_var 7) do_none (do_some (de_var 8)) hz) (e1 rfl rfl) ?_) (de_slS (de_var 7) (do_some (de_add (de_var 8) de_int)) do_none hz) ?_) ?_)
      · rw [letter_len, sizeLine_eq]; omega
      · rw [PySem.Str.length_append, letter_len, sizeLine_eq]; omega
      refine dss_st (ds_cut (fun ρ => ρ = [.dat (.int c), .dat (.int many), .dat (.str abcS), .own (.lst ((nmL c k).map .str)), .dat (.int (k : Int)), .dat (.lst ((nmDg c k).map .int)), .emp, .dat (.str (nmY (nmL c k) c k)), .dat (.int (dI (nmDg c k) 1 % ((name0 (nmDg c k)).length : Int)))])
        (ds_if (dt_peek (dt_cmp (c_inT (x := name1 (nmDg c k) k) (xs := nmL c k) (roomU hr (by decide))) (de_var 7) (de_var 3))) (fun hz => ?_) (fun hz => ?_)) ?_)
      · have hz : name1 (nmDg c k) k ∈ nmL c k := of_decide_eq_true hz
        refine dss_st (ds_set 7 sc_names.nd (de_addS (de_var 7) (e1 rfl rfl) (by rw [letter_len, sizeLine_eq]; show (name1 (nmDg c k) k).length + 1 ≤ _; omega)) ?_)
        refine dss_nil (Up.intro rfl ?_)
        rw [nmY, if_pos hz]
        exact Le.refl _
      · have hz : ¬ name1 (nmDg c k) k ∈ nmL c k := of_decide_eq_false hz
        refine dss_nil (Up.intro rfl ?_)
        rw [nmY, if_neg hz]
        exact Le.refl _
      rintro ρ' rfl
      refine dss_st (ds_if (dt_peek (dt_cmp (c_notInT (x := nmY (nmL c k) c k) (xs := nmL c k) (roomU hr (by decide))) (de_var 7) (de_var 3))) (fun hz => ?_) (fun hz => ?_))
      · have hz : ¬ nmY (nmL c k) c k ∈ nmL c k := by simpa using hz
        refine dss_st (ds_append 3 (ds := (nmL c k).map .str) (de_var 7) (by rw [List.length_map, sizeLine_eq]; omega) ?_)
        refine dss_nil (dss_nil (Up.intro rfl ?_))
        rw [nmL, nmStep, if_neg hz, List.map_append]
        walk_at "le"
      · have hz : nmY (nmL c k) c k ∈ nmL c k := by simpa using hz
        refine dss_nil (dss_nil (Up.intro rfl ?_))
        rw [nmL, nmStep, if_pos hz]
        walk_at "le"
    · rintro ρ' rfl
      exact dss_st (ds_retOwn 3 (m := .lst ((nmL c many).map .str)) rfl)
end
end K47
set_option Elab.async false
set_option linter.all false
set_option maxRecDepth 100000
set_option maxHeartbeats 4000000
namespace K47
open PySem PySem.Spec PyProof.Rows L2 DL
local macro_rules | `(tactic| walk_at "le") => `(tactic| (first | exact trivial | exact ⟨.inl rfl, by walk_at "le"⟩ | exact ⟨.inr ⟨rfl, rfl⟩, by walk_at "le"⟩))
abbrev s_lowest : Stmt := top 22
def gl : Nat → Int → Int → Int
  | 0, a, _ => a
  | k + 1, a, b => if b = 0 then a else gl k b (a % b)
theorem gl_zero : ∀ (k : Nat) (a : Int), gl k a 0 = a
  | 0, a => rfl
  | k + 1, a => by simp [gl]
theorem gl_le : ∀ (k : Nat) (a b m : Int), 1 ≤ a → 0 ≤ b → a ≤ m → b ≤ m → 1 ≤ gl k a b ∧ gl k a b ≤ m
  | 0, a, b, m, h1, h2, h3, h4 => ⟨h1, h3⟩
  | k + 1, a, b, m, h1, h2, h3, h4 => by
    unfold gl
    by_cases h : b = 0
    · rw [if_pos h]; exact ⟨h1, h3⟩
    · rw [if_neg h]
      have m1 := Int.emod_nonneg a h
      have m2 := Int.emod_lt_of_pos a (b := b) (by omega)
      exact gl_le k b (a % b) m (by omega) m1 h4 (by omega)
theorem gl_top (n d : Int) (h0 : 0 ≤ n) (hd : 1 ≤ d) : 1 ≤ gl 200 n d ∧ gl 200 n d ≤ d := by
  show 1 ≤ (if d = 0 then n else gl 199 d (n % d)) ∧ (if d = 0 then n else gl 199 d (n % d)) ≤ d
  rw [if_neg (by omega)]
  have m1 := Int.emod_nonneg n (b := d) (by omega)
  have m2 := Int.emod_lt_of_pos n (b := d) (by omega)
  exact gl_le 199 d (n % d) d hd m1 (Int.le_refl _) (by omega)
def RLow (ds : List D) (out : Out) : Prop := ∃ n d : Int, ds = [.int n, .int d] ∧ 0 ≤ n ∧ 1 ≤ d ∧ d < 1000000 ∧ out = .val (.tup [.int (n / gl 200 n d), .int (d / gl 200 n d)])
theorem low_ok (n d : Int) (h0 : 0 ≤ n) (h1 : n ≤ 60) (hd : 1 ≤ d) (h2 : d ≤ 20) : 0 ≤ n / gl 200 n d ∧ n / gl 200 n d ≤ 60 ∧ 1 ≤ d / gl 200 n d ∧ d / gl 200 n d ≤ 20 := by
  obtain ⟨g1, g2⟩ := gl_top n d h0 hd
  refine ⟨Int.ediv_nonneg h0 (by omega), Int.le_trans (Int.ediv_le_self _ h0) h1, ?_, Int.le_trans (Int.ediv_le_self _ (by omega)) h2⟩
  exact (Int.le_ediv_iff_mul_le (by omega)).mpr (by omega)
section
variable {P : Program} {w : World} {K : PySem.W.Frag} {mg : Str → Option Value} {base : Heap}
theorem sc_lowest : FnScope ["n", "d", "a", "b", "step", "rest"] ["n", "d"] (defScope s_lowest) := ⟨rfl, rfl, rfl, by decide +kernel, rfl, by decide +kernel, by decide +kernel⟩
theorem ok_lowest {f : Addr} {fd : FuncData} (F : Fun K "_law_lowest" "_law_lowest" s_lowest f fd) (T : Txt K mg) : FnOk P w K mg base CX0 1 f fd ["n", "d"] (spD K RLow) := by
  refine dfn F sc_lowest (fun ds out h => ?_) (fun ds out h cdv A outer s H E hr => ?_)
  · obtain ⟨_, _, rfl, _, _, _, rfl⟩ := h; exact ⟨rfl, nofun⟩
  · obtain ⟨n, d, rfl, h0, h1, h2, rfl⟩ := h
    obtain ⟨g1, g2⟩ := gl_top n d h0 h1
    refine dss_st (ds_set 2 sc_lowest.nd (de_var 0) ?_)
    refine dss_st (ds_set 3 sc_lowest.nd (de_var 1) ?_)
    refine dss_st (ds_cut (fun ρ => ρ = [.dat (.int n), .dat (.int d), .dat (.int (gl 200 n d)), .emp, .emp, .emp])
      (ds_range1 4 200 (fun k ρ => ∃ a b : Int, 0 ≤ a ∧ 0 ≤ b ∧ gl (200 - k) a b = gl 200 n d ∧ ρ = [.dat (.int n), .dat (.int d), .dat (.int a), .dat (.int b), .emp, .emp])
        sc_lowest.nd T.range PassesOwn.never rfl de_int rfl (by decide) (Up.intro ⟨n, d, h0, by omega, rfl, rfl⟩ (by walk_at "le")) ?_ ?_) ?_)
    · rintro k ρ' hk ⟨a, b, ha, hb, hg, rfl⟩
      refine ⟨(by intro m h; cases h), ?_⟩
      refine dss_st (ds_if (dt_cmp c_eq (de_var 3) de_int) (fun hz => ?_) (fun hz => ?_))
      · have hz : b = 0 := of_decide_eq_true hz
        subst hz
        rw [gl_zero] at hg
        subst hg
        exact dss_st (ds_break (Up.intro rfl (by walk_at "le")))
      · have hz : ¬ b = 0 := of_decide_eq_false hz
        refine dss_nil (dss_st (ds_set 5 sc_lowest.nd (de_mod (de_int1 T.int (de_var 2)) (de_var 3) (by omega)) ?_))
        refine dss_st (ds_set 2 sc_lowest.nd (de_var 3) ?_)
        refine dss_st (ds_set 3 sc_lowest.nd (de_var 5) ?_)
        refine dss_nil (Up.intro ⟨b, a % b, hb, Int.emod_nonneg _ hz, ?_, rfl⟩ (by walk_at "le"))
        rw [← hg, show 200 - k = (200 - (k + 1)) + 1 by omega, gl, if_neg hz]
    · rintro ρ' ⟨a, b, _, _, hg, rfl⟩
      exact Up.intro rfl (by rw [← hg]; walk_at "le")
    · rintro ρ' rfl
      refine dss_st (ds_ret (de_tup (da_cons (de_fdiv (de_var 0) (de_var 2) (by omega)) (da_cons (de_fdiv (de_var 1) (de_var 2) (by omega)) da_nil))) rfl)
end
end K47
set_option Elab.async false
set_option linter.all false
namespace K47
open PySem
/-! The plain law: counts, the first stretch. -/
structure Row where
  t : Nat
  s : Str
  n : Int
  deriving DecidableEq
def cnt : List Row → Str → Nat → Nat → Int
  | [], _, _, _ => 0
  | r :: rs, task, lo, hi => (if r.s = task ∧ lo ≤ r.t ∧ r.t < hi then r.n else 0) + cnt rs task lo hi
theorem cnt_app (as bs : List Row) (task : Str) (lo hi : Nat) : cnt (as ++ bs) task lo hi = cnt as task lo hi + cnt bs task lo hi := by
  induction as with
  | nil => simp [cnt]
  | cons a as ih => simp only [List.cons_append, cnt, ih]; omega
theorem cnt_split (rs : List Row) (task : Str) {lo mi hi : Nat} (h1 : lo ≤ mi) (h2 : mi ≤ hi) : cnt rs task lo hi = cnt rs task lo mi + cnt rs task mi hi := by
  induction rs with
  | nil => rfl
  | cons r rs ih =>
    simp only [cnt, ih]
    by_cases hs : r.s = task
    · by_cases c1 : r.t < mi
      · by_cases c2 : lo ≤ r.t
        · rw [if_pos ⟨hs, c2, by omega⟩, if_pos ⟨hs, c2, c1⟩, if_neg (by rintro ⟨_, h, _⟩; omega)]; omega
        · rw [if_neg (by rintro ⟨_, h, _⟩; omega), if_neg (by rintro ⟨_, h, _⟩; omega), if_neg (by rintro ⟨_, h, _⟩; omega)]; omega
      · by_cases c2 : r.t < hi
        · rw [if_pos ⟨hs, by omega, c2⟩, if_neg (by rintro ⟨_, _, h⟩; omega), if_pos ⟨hs, by omega, c2⟩]; omega
        · rw [if_neg (by rintro ⟨_, _, h⟩; omega), if_neg (by rintro ⟨_, _, h⟩; omega), if_neg (by rintro ⟨_, _, h⟩; omega)]; omega
    · rw [if_neg (fun h => hs h.1), if_neg (fun h => hs h.1), if_neg (fun h => hs h.1)]; omega
theorem cnt_none (rs : List Row) (task : Str) {lo hi : Nat} (h : ∀ r ∈ rs, r.s = task → lo ≤ r.t → ¬ r.t < hi) : cnt rs task lo hi = 0 := by
  induction rs with
  | nil => rfl
  | cons r rs ih =>
    simp only [cnt]
    rw [ih fun r hr => h r (by simp [hr]), if_neg (fun c => h r (by simp) c.1 c.2.1 c.2.2)]; rfl
theorem cnt_nonneg (rs : List Row) (task : Str) (lo hi : Nat) (h : ∀ r ∈ rs, 1 ≤ r.n) : 0 ≤ cnt rs task lo hi := by
  induction rs with
  | nil => exact Int.le_refl _
  | cons r rs ih =>
    have := ih fun r hr => h r (by simp [hr])
    have h1 := h r (by simp)
    simp only [cnt]
    split <;> omega
theorem cnt_pos (rs : List Row) (task : Str) (lo hi : Nat) (h : ∀ r ∈ rs, 1 ≤ r.n) : 0 < cnt rs task lo hi ↔ ∃ r ∈ rs, r.s = task ∧ lo ≤ r.t ∧ r.t < hi := by
  induction rs with
  | nil => simp [cnt]
  | cons r rs ih =>
    have hn := cnt_nonneg rs task lo hi fun r hr => h r (by simp [hr])
    have h1 := h r (by simp)
    have ih := ih fun r hr => h r (by simp [hr])
    simp only [cnt]
    by_cases c : r.s = task ∧ lo ≤ r.t ∧ r.t < hi
    · rw [if_pos c]
      exact ⟨fun _ => ⟨r, by simp, c⟩, fun _ => by omega⟩
    · rw [if_neg c, Int.zero_add, ih]
      constructor
      · rintro ⟨x, hx, q⟩; exact ⟨x, by simp [hx], q⟩
      · rintro ⟨x, hx, q⟩
        rcases List.mem_cons.mp hx with rfl | hx
        · exact absurd q c
        · exact ⟨x, hx, q⟩
/-- more than allowed in the stretch (f, b) -/
def Bad (rs : List Row) (task : Str) (burst rn rd : Int) (f b : Nat) : Prop := rn * ((b : Int) - f) < (cnt rs task f b - burst) * rd
instance {rs task burst rn rd f b} : Decidable (Bad rs task burst rn rd f b) := by unfold Bad; infer_instance
def Hit (rs : List Row) (task : Str) (b : Nat) : Prop := ∃ r ∈ rs, r.s = task ∧ r.t + 1 = b
def IsFirst (rs : List Row) (task : Str) (burst rn rd : Int) : Option (Nat × Nat) → Prop
  | none => ∀ b f, Hit rs task b → f < b → ¬ Bad rs task burst rn rd f b
  | some (f, b) => Hit rs task b ∧ f < b ∧ Bad rs task burst rn rd f b ∧ (∀ f' < f, ¬ Bad rs task burst rn rd f' b) ∧ ∀ b' < b, Hit rs task b' → ∀ f' < b', ¬ Bad rs task burst rn rd f' b'
theorem IsFirst.uniq {rs : List Row} {task : Str} {burst rn rd : Int} {o o' : Option (Nat × Nat)} (h : IsFirst rs task burst rn rd o) (h' : IsFirst rs task burst rn rd o') : o = o' := by
  match o, o', h, h' with
  | none, none, _, _ => rfl
  | none, some (f, b), h, h' => exact absurd h'.2.2.1 (h b f h'.1 h'.2.1)
  | some (f, b), none, h, h' => exact absurd h.2.2.1 (h' b f h.1 h.2.1)
  | some (f, b), some (f', b'), h, h' =>
    have hb : b = b' := by
      rcases Nat.lt_trichotomy b b' with c | c | c
      · exact absurd h.2.2.1 (h'.2.2.2.2 b c h.1 f h.2.1)
      · exact c
      · exact absurd h'.2.2.1 (h.2.2.2.2 b' c h'.1 f' h'.2.1)
    subst hb
    have hf : f = f' := by
      rcases Nat.lt_trichotomy f f' with c | c | c
      · exact absurd h.2.2.1 (h'.2.2.2.1 f c)
      · exact c
      · exact absurd h'.2.2.1 (h.2.2.2.1 f' c)
    subst hf; rfl
theorem least (p : Nat → Prop) : ∀ n, p n → ∃ m, p m ∧ ∀ k < m, ¬ p k := by
  intro n
  induction n using Nat.strongRecOn with
  | _ n ih =>
    intro hp
    by_cases h : ∃ k, k < n ∧ p k
    · obtain ⟨k, h1, h2⟩ := h; exact ih k h1 h2
    · exact ⟨n, hp, fun k hk hpk => h ⟨k, hk, hpk⟩⟩
theorem isFirst_ex (rs : List Row) (task : Str) (burst rn rd : Int) : ∃ o, IsFirst rs task burst rn rd o := by
  by_cases h : ∃ b, Hit rs task b ∧ ∃ f, f < b ∧ Bad rs task burst rn rd f b
  · obtain ⟨b0, h0⟩ := h
    obtain ⟨b, ⟨hb, f0, hf0⟩, hmin⟩ := least (fun b => Hit rs task b ∧ ∃ f, f < b ∧ Bad rs task burst rn rd f b) b0 h0
    obtain ⟨f, ⟨hf, hbad⟩, hfmin⟩ := least (fun f => f < b ∧ Bad rs task burst rn rd f b) f0 hf0
    refine ⟨some (f, b), hb, hf, hbad, fun f' hf' hx => hfmin f' hf' ⟨by omega, hx⟩, fun b' hb' hh f' hf' hx => hmin b' hb' ⟨hh, f', hf', hx⟩⟩
  · exact ⟨none, fun b f h1 h2 h3 => h ⟨b, h1, f, h2, h3⟩⟩
/-- the rows of one task -/
def ownL (rs : List Row) (task : Str) : List Row := rs.filter fun r => decide (r.s = task)
theorem cnt_own (rs : List Row) (task : Str) (lo hi : Nat) : cnt (ownL rs task) task lo hi = cnt rs task lo hi := by
  induction rs with
  | nil => rfl
  | cons r rs ih =>
    unfold ownL at ih ⊢
    by_cases c : r.s = task
    · rw [List.filter_cons_of_pos (by simp [c])]; simp only [cnt, ih]
    · rw [List.filter_cons_of_neg (by simp [c]), ih]; simp only [cnt]; rw [if_neg (fun h => c h.1), Int.zero_add]
theorem own_mem {rs : List Row} {task : Str} {r : Row} : r ∈ ownL rs task ↔ r ∈ rs ∧ r.s = task := by unfold ownL; simp
/-- rows as the law makes them -/
structure Good (rs : List Row) (task : Str) : Prop where
  up : (ownL rs task).Pairwise fun a b => a.t < b.t
  pos : ∀ r ∈ rs, 1 ≤ r.n
  tick : ∀ r ∈ rs, r.t ≤ 400
  len : rs.length ≤ 100
theorem hit_own {rs : List Row} {task : Str} {b : Nat} : Hit rs task b ↔ ∃ r ∈ ownL rs task, r.t + 1 = b := by
  constructor
  · rintro ⟨r, h1, h2, h3⟩; exact ⟨r, own_mem.mpr ⟨h1, h2⟩, h3⟩
  · rintro ⟨r, h1, h3⟩; exact ⟨r, (own_mem.mp h1).1, (own_mem.mp h1).2, h3⟩
/-- the jobs up to place k -/
theorem take_sum {task : Str} : ∀ (os : List Row) (k : Nat) (r : Row), os.Pairwise (fun a b => a.t < b.t) → (∀ x ∈ os, x.s = task) → os[k]? = some r → ((os.take (k + 1)).map (·.n)).sum = cnt os task 0 (r.t + 1)
  | [], k, r, _, _, h => by simp at h
  | a :: os, 0, r, hp, hs, h => by
    simp at h; subst h
    have hp := List.pairwise_cons.mp hp
    simp only [List.take_succ_cons, List.take_zero, List.map_cons, List.map_nil, List.sum_cons, List.sum_nil, cnt]
    rw [if_pos ⟨hs a (by simp), Nat.zero_le _, by omega⟩, cnt_none os task fun x hx _ _ => by have := hp.1 x hx; omega]
  | a :: os, k + 1, r, hp, hs, h => by
    simp at h
    have hp := List.pairwise_cons.mp hp
    have := hp.1 r (List.mem_of_getElem? h)
    rw [List.take_succ_cons, List.map_cons, List.sum_cons, take_sum os k r hp.2 (fun x hx => hs x (by simp [hx])) h]
    simp only [cnt]
    rw [if_pos ⟨hs a (by simp), Nat.zero_le _, by omega⟩]
theorem cnt_one {task : Str} : ∀ (os : List Row) (r : Row), os.Pairwise (fun a b => a.t < b.t) → (∀ x ∈ os, x.s = task) → r ∈ os → cnt os task r.t (r.t + 1) = r.n
  | [], r, _, _, h => by simp at h
  | a :: os, r, hp, hs, h => by
    have hp := List.pairwise_cons.mp hp
    simp only [cnt]
    rcases List.mem_cons.mp h with rfl | h
    · rw [if_pos ⟨hs r (by simp), by omega, by omega⟩, cnt_none os task fun x hx _ _ => by have := hp.1 x hx; omega]; omega
    · have := hp.1 r h
      rw [if_neg (by rintro ⟨_, q, _⟩; omega), cnt_one os r hp.2 (fun x hx => hs x (by simp [hx])) h, Int.zero_add]
theorem up_get {os : List Row} (hp : os.Pairwise (fun a b => a.t < b.t)) {i j : Nat} {a b : Row} (hi : os[i]? = some a) (hj : os[j]? = some b) (h : i < j) : a.t < b.t := by
  obtain ⟨h1, rfl⟩ := List.getElem?_eq_some_iff.mp hi
  obtain ⟨h2, rfl⟩ := List.getElem?_eq_some_iff.mp hj
  exact List.pairwise_iff_getElem.mp hp i j h1 h2 h
end K47
set_option Elab.async false
set_option linter.all false
set_option maxRecDepth 100000
set_option maxHeartbeats 4000000
namespace K47
open PySem PySem.Spec PyProof.Rows L2 DL
local macro_rules | `(tactic| walk_at "le") => `(tactic| (first | exact trivial | exact ⟨.inl rfl, by walk_at "le"⟩ | exact ⟨.inr ⟨rfl, rfl⟩, by walk_at "le"⟩))
abbrev s_first : Stmt := top 23
def rowD (r : Row) : D := .tup [.int (r.t : Int), .str r.s, .int r.n]
def rowsD (rs : List Row) : D := .lst (rs.map rowD)
def prD (r : Row) : D := .tup [.int (r.t : Int), .int r.n]
def optD : Option (Nat × Nat) → D
  | none => .non
  | some (f, b) => .tup [.int (f : Int), .int (b : Int)]
structure Txt2 (K : PySem.W.Frag) (mg : Str → Option Value) : Prop extends Txt K mg where
  sum : mg "sum" = none
  min : mg "min" = none
  max : mg "max" = none
  list : mg "list" = none
def rateD (rn rd : Int) : D := .tup [.int rn, .int rd]
def RFirst (ds : List D) (out : Out) : Prop := ∃ (rs : List Row) (task : Str) (burst rn rd : Int) (o : Option (Nat × Nat)), ds = [rowsD rs, .str task, .int burst, rateD rn rd] ∧ Good rs task ∧ 0 ≤ rn ∧ rn ≤ 1000 ∧ 1 ≤ rd ∧ rd ≤ 1000 ∧
  IsFirst rs task burst rn rd o ∧ out = .val (optD o)
theorem cutD_take (ds : List D) (n : Nat) : DL.cutD ds none (some (n : Int)) = ds.take n := by
  unfold DL.cutD
  rw [HT.sIx_nat]
  show (ds.drop 0).take (min n ds.length - 0) = ds.take n
  rw [List.drop_zero, Nat.sub_zero]
  by_cases h : n ≤ ds.length
  · rw [Nat.min_eq_left h]
  · rw [Nat.min_eq_right (by omega), List.take_of_length_le (Nat.le_refl _), List.take_of_length_le (by omega)]
theorem cutD_drop (ds : List D) (n : Nat) : DL.cutD ds (some (n : Int)) none = ds.drop n := by
  unfold DL.cutD
  rw [HT.sIx_nat]
  show (ds.drop (min n ds.length)).take (ds.length - min n ds.length) = ds.drop n
  by_cases h : n ≤ ds.length
  · rw [Nat.min_eq_left h, List.take_of_length_le (by rw [List.length_drop]; omega)]
  · rw [Nat.min_eq_right (by omega), List.drop_of_length_le (Nat.le_refl _), List.drop_of_length_le (show ds.length ≤ n by omega)]; simp
section
variable {P : Program} {w : World} {K : PySem.W.Frag} {mg : Str → Option Value} {base : Heap}
theorem sc_first : FnScope ["rows", "task", "burst", "rate", "own", "row", "k", "behind", "jobs", "at", "first"] ["rows", "task", "burst", "rate"] (defScope s_first) := ⟨rfl, rfl, rfl, by decide +kernel, rfl, by decide +kernel, by decide +kernel⟩
theorem ok_first {f : Addr} {fd : FuncData} (F : Fun K "_law_first" "_law_first" s_first f fd) (T : Txt2 K mg) : FnOk P w K mg base CX0 1 f fd ["rows", "task", "burst", "rate"] (spD K RFirst) := by
  refine dfn F sc_first (fun ds out h => ?_) (fun ds out h cdv A outer s H E hr => ?_)
  · obtain ⟨_, _, _, _, _, _, rfl, _, _, _, _, _, _, rfl⟩ := h; exact ⟨rfl, nofun⟩
  · obtain ⟨rs, task, burst, rn, rd, o, rfl, G, hrn, hrn2, hrd, hrd2, ho, rfl⟩ := h
    have hos : (ownL rs task).length ≤ 100 := Nat.le_trans (List.length_filter_le _ _) G.len
    have hsm : ∀ x ∈ ownL rs task, x.s = task := fun x hx => (own_mem.mp hx).2
    refine dss_st (ds_setLc1 4 5 (items := rs) (f := rowD) (fun r => decide (r.s = task)) prD rfl sc_first.nd (di_list (de_var 0)) rfl (by have := G.len; rw [sizeLine_eq]; omega)
      (fun r hr' s' H' C cl fp => ⟨dts_one (dt_cmp c_eqS (de_ixT (de_var 5) de_int (d := .str r.s)) (de_var 1)), fun _ => de_tup (da_cons (de_ixT (de_var 5) de_int) (da_cons (de_ixT (de_var 5) de_int) da_nil))⟩) ?_)
    refine dss_freeze 4 (m := .lst ((ownL rs task).map prD)) ?_
    refine dss_st (ds_range1 6 (ownL rs task).length (fun k ρ => (∀ j r, j < k → (ownL rs task)[j]? = some r → ∀ f' < r.t + 1, ¬ Bad rs task burst rn rd f' (r.t + 1)) ∧
        ρ = [.dat (rowsD rs), .dat (.str task), .dat (.int burst), .dat (rateD rn rd), .dat (.lst ((ownL rs task).map prD)), .emp, .emp, .emp, .emp, .emp, .emp])
      sc_first.nd T.range PassesOwn.never rfl (de_lenL T.len (de_var 4)) (by rw [List.length_map]) (by omega) (Up.intro ⟨(by intro j _ h; omega), rfl⟩ (by walk_at "le")) ?_ ?_)
    · rintro k ρ' hk ⟨hall, rfl⟩
      refine ⟨(by intro m h; cases h), ?_⟩
      obtain ⟨r, hrk⟩ : ∃ r, (ownL rs task)[k]? = some r := ⟨_, List.getElem?_eq_getElem hk⟩
      have hrm := own_mem.mp (List.mem_of_getElem? hrk)
      have ht := G.tick r hrm.1
      have hat : ∀ (j : Nat) x, (ownL rs task)[j]? = some x → atI ((ownL rs task).map prD) (j : Int) = some (prD x) := fun j x h => atI_nat (by rw [List.getElem?_map, h]; rfl)
      refine dss_st (ds_set 7 sc_first.nd ((de_add (de_ixT (de_ixL (de_var 4) (de_var 6) (hat k r hrk)) de_int (d := .int (r.t : Int))) de_int).eq (d' := .int ((r.t + 1 : Nat) : Int)) (congrArg D.int (by omega))) ?_)
      refine dss_st (ds_set 8 sc_first.nd ((de_sum (ns := ((ownL rs task).take (k + 1)).map (·.n)) rfl T.sum
        ((df_lc1 5 (items := (ownL rs task).take (k + 1)) (f := prD) (fun _ => true) (fun r => .int r.n) rfl sc_first.nd
          (di_list ((df_slL (de_var 4) do_none (do_some (de_add (de_var 6) de_int))).de.eq (by
            show D.lst (DL.cutD _ none (some ((k : Int) + 1))) = _
            rw [show ((k : Int) + 1) = ((k + 1 : Nat) : Int) by omega, cutD_take, List.map_take]))) rfl (by rw [List.length_take, sizeLine_eq]; omega)
          (fun r hr' s' H' C cl fp => ⟨dts_nil, fun _ => de_ixT (de_var 5) de_int⟩)).de.eq (by
            show D.lst _ = D.lst _
            rw [List.filter_eq_self.mpr (by simp), List.map_map]; rfl))).eq (d' := .int (cnt rs task 0 (r.t + 1))) (by rw [take_sum _ k r G.up hsm hrk, cnt_own])) ?_)
      refine dss_st (ds_set 9 sc_first.nd de_int ?_)
      refine dss_st (ds_range1 10 (r.t + 1) (fun f' ρ => ∃ at' : Nat, (∀ j x, j < at' → (ownL rs task)[j]? = some x → x.t + 1 < f') ∧ (∀ j x, at' ≤ j → (ownL rs task)[j]? = some x → f' ≤ x.t + 1) ∧ at' ≤ k ∧ (∀ f2 < f', ¬ Bad rs task burst rn rd f2 (r.t + 1)) ∧
          ρ = [.dat (rowsD rs), .dat (.str task), .dat (.int burst), .dat (rateD rn rd), .dat (.lst ((ownL rs task).map prD)), .emp, .dat (.int (k : Int)), .dat (.int ((r.t + 1 : Nat) : Int)), .dat (.int (cnt rs task (f' - 1) (r.t + 1))), .dat (.int (at' : Int)), .emp])
        sc_first.nd T.range PassesOwn.never rfl (de_var 7) rfl (by omega) (Up.intro ⟨0, (by intro j _ h; omega), (by intro j x _ _; omega), Nat.zero_le _, (by intro f2 h; omega), rfl⟩ (by walk_at "le")) ?_ ?_)
      · rintro f' ρ' hf' ⟨a, ha1, ha2, hak, hbad, rfl⟩
        refine ⟨(by intro m h; cases h), ?_⟩
        obtain ⟨x, hx⟩ : ∃ x, (ownL rs task)[a]? = some x := ⟨_, List.getElem?_eq_getElem (by omega)⟩
        have hxm := List.mem_of_getElem? hx
        refine dss_st (ds_cut (fun ρ => ∃ at' : Nat, (∀ j x, j < at' → (ownL rs task)[j]? = some x → x.t < f') ∧ (∀ j x, at' ≤ j → (ownL rs task)[j]? = some x → f' ≤ x.t) ∧ at' ≤ k ∧
          ρ = [.dat (rowsD rs), .dat (.str task), .dat (.int burst), .dat (rateD rn rd), .dat (.lst ((ownL rs task).map prD)), .emp, .dat (.int (k : Int)), .dat (.int ((r.t + 1 : Nat) : Int)), .dat (.int (cnt rs task f' (r.t + 1))), .dat (.int (at' : Int)), .dat (.int (f' : Int))])
          (ds_if (dt_cmp c_lt (de_ixT (de_ixL (de_var 4) (de_var 9) (hat a x hx)) de_int (d := .int (x.t : Int))) (de_var 10)) (fun hz => ?_) (fun hz => ?_)) ?_)
        · have hz : x.t < f' := by have : (x.t : Int) < (f' : Int) := of_decide_eq_true hz; omega
          have hx1 := ha2 a x (Nat.le_refl _) hx
          have hak2 : a < k := by
            rcases Nat.lt_or_ge a k with h | h
            · exact h
            · have : a = k := by omega
              subst this; rw [hrk] at hx; cases hx; omega
          have hc : cnt rs task (f' - 1) (r.t + 1) - x.n = cnt rs task f' (r.t + 1) := by
            rw [cnt_split rs task (lo := f' - 1) (mi := f') (hi := r.t + 1) (by omega) (by omega), ← cnt_own rs task (f' - 1) f', show f' - 1 = x.t by omega]
            have := cnt_one (ownL rs task) x G.up hsm hxm
            rw [show x.t + 1 = f' by omega] at this
            omega
          refine dss_st (ds_set 8 sc_first.nd ((de_sub (de_var 8) (de_ixT (de_ixL (de_var 4) (de_var 9) (hat a x hx)) de_int (d := .int x.n))).eq (congrArg D.int hc)) ?_)
          refine dss_st (ds_set 9 sc_first.nd ((de_add (de_var 9) de_int).eq (d' := .int ((a + 1 : Nat) : Int)) (congrArg D.int (by omega))) ?_)
          refine dss_nil (Up.intro ⟨a + 1, ?_, ?_, hak2, rfl⟩ (by walk_at "le"))
          · intro j y hj hy
            by_cases h : j < a
            · have := ha1 j y h hy; omega
            · have : j = a := by omega
              subst this; rw [hx] at hy; cases hy; exact hz
          · intro j y hj hy
            have := up_get G.up hx hy (by omega); omega
        · have hz : f' ≤ x.t := by have : ¬ (x.t : Int) < (f' : Int) := of_decide_eq_false hz; omega
          have hge : ∀ j y, a ≤ j → (ownL rs task)[j]? = some y → f' ≤ y.t := by
            intro j y hj hy
            by_cases h : a < j
            · have := up_get G.up hx hy h; omega
            · have : j = a := by omega
              subst this; rw [hx] at hy; cases hy; exact hz
          have hc : cnt rs task (f' - 1) (r.t + 1) = cnt rs task f' (r.t + 1) := by
            rw [cnt_split rs task (lo := f' - 1) (mi := f') (hi := r.t + 1) (by omega) (by omega), ← cnt_own rs task (f' - 1) f', cnt_none, Int.zero_add]
            intro y hy _ h1 h2
            obtain ⟨j, hj⟩ := List.getElem?_of_mem hy
            by_cases h : j < a
            · have := ha1 j y h hj; omega
            · have := hge j y (by omega) hj; omega
          refine dss_nil (Up.intro ⟨a, fun j y hj hy => by have := ha1 j y hj hy; omega, hge, hak, rfl⟩ (by rw [hc]; walk_at "le"))
        · rintro ρ' ⟨a', h1, h2, h3, rfl⟩
          have hval : ∀ z, decide (rn * (((r.t + 1 : Nat) : Int) - (f' : Int)) < (cnt rs task f' (r.t + 1) - burst) * rd) = z → (z = true ↔ Bad rs task burst rn rd f' (r.t + 1)) := by
            rintro z rfl; simp [Bad]
          refine dss_st (ds_if (dt_cmp c_gt (de_mul (de_sub (de_var 8) (de_var 2)) (de_ixT (de_var 3) de_int (d := .int rd)) (.inr (by omega))) (de_mul (de_ixT (de_var 3) de_int (d := .int rn)) (de_sub (de_var 7) (de_var 10)) (.inl (by omega)))) (fun hz => ?_) (fun hz => ?_))
          · have hb : Bad rs task burst rn rd f' (r.t + 1) := (hval _ hz).mp rfl
            have e : o = some (f', r.t + 1) := by
              refine ho.uniq ⟨⟨r, hrm.1, hrm.2, rfl⟩, hf', hb, hbad, fun b' hb' hh f2 hf2 => ?_⟩
              obtain ⟨y, hy, hyb⟩ := hit_own.mp hh
              obtain ⟨j, hj⟩ := List.getElem?_of_mem hy
              have hjk : j < k := by
                rcases Nat.lt_trichotomy j k with h | h | h
                · exact h
                · subst h; rw [hrk] at hj; cases hj; omega
                · have := up_get G.up hrk hj h; omega
              subst hyb
              exact hall j y hjk hj f2 hf2
            subst e
            exact dss_st (ds_ret (de_tup (da_cons (de_var 10) (da_cons (de_var 7) da_nil))) rfl)
          · have hb : ¬ Bad rs task burst rn rd f' (r.t + 1) := fun h => absurd ((hval _ hz).mpr h) (by decide)
            refine dss_nil (dss_nil (Up.intro ⟨a', fun j y hj hy => by have := h1 j y hj hy; omega, fun j y hj hy => by have := h2 j y hj hy; omega, h3, ?_, rfl⟩ (by walk_at "le")))
            intro f2 hf2
            by_cases h : f2 < f'
            · exact hbad f2 h
            · have : f2 = f' := by omega
              subst this; exact hb
      · rintro ρ' ⟨a, _, _, _, hbad, rfl⟩
        refine dss_nil (Up.intro ⟨?_, rfl⟩ (by walk_at "le"))
        intro j y hj hy f2 hf2
        by_cases h : j < k
        · exact hall j y h hy f2 hf2
        · have : j = k := by omega
          subst this; rw [hrk] at hy; cases hy; exact hbad f2 hf2
    · rintro ρ' ⟨hall, rfl⟩
      have e : o = none := by
        refine ho.uniq (fun b f2 hh hf2 => ?_)
        obtain ⟨y, hy, hyb⟩ := hit_own.mp hh
        obtain ⟨j, hj⟩ := List.getElem?_of_mem hy
        subst hyb
        exact hall j y (List.getElem?_eq_some_iff.mp hj).1 hj f2 hf2
      subst e
      exact dss_st (ds_ret de_non rfl)
end
end K47
set_option Elab.async false
set_option linter.all false
set_option maxRecDepth 100000
set_option maxHeartbeats 4000000
namespace K47
open PySem PySem.Spec PyProof.Rows L2 DL
local macro_rules | `(tactic| walk_at "le") => `(tactic| (first | exact trivial | exact ⟨.inl rfl, by walk_at "le"⟩ | exact ⟨.inr ⟨rfl, rfl⟩, by walk_at "le"⟩))
abbrev s_rows : Stmt := top 24
def hs8 : List Int := [20, 61, 20, 5, 13, 4, 12, 12]
def HeadOk (hd : List Int) : Prop := ∀ i s, hs8[i]? = some s → hd[i]? = some (dI hd i) ∧ 0 ≤ dI hd i ∧ dI hd i < s
theorem head_ok (c : Int) (salt : Int) : HeadOk (digits c hs8 salt) := fun i s h => dig_get c salt (by decide) i h
structure RowsOk (rs : List Row) (tick : Nat) : Prop where
  up : rs.Pairwise fun a b => a.t ≤ b.t ∧ ¬ (a.t = b.t ∧ a.s = b.s)
  tk : ∀ r ∈ rs, r.t ≤ tick
  ps : ∀ r ∈ rs, 1 ≤ r.n
theorem RowsOk.good {rs : List Row} {tick : Nat} (h : RowsOk rs tick) (ht : tick ≤ 400) (hl : rs.length ≤ 100) (task : Str) : Good rs task :=
  ⟨by
    have h1 := (List.Pairwise.filter (fun r => decide (r.s = task)) h.up)
    refine List.Pairwise.imp_of_mem (fun {a b} ha hb q => ?_) h1
    have ha := (List.mem_filter.mp ha).2
    have hb := (List.mem_filter.mp hb).2
    simp at ha hb
    have : a.t ≠ b.t := fun e => q.2 ⟨e, by rw [ha, hb]⟩
    omega, h.ps, fun r hr => Nat.le_trans (h.tk r hr) ht, hl⟩
theorem RowsOk.add {rs : List Row} {tick : Nat} (h : RowsOk rs tick) {t' : Nat} {task : Str} {n : Int} (ht : tick ≤ t') (hn : 1 ≤ n) (hx : ∀ r ∈ rs, ¬ (r.t = t' ∧ r.s = task)) : RowsOk (rs ++ [⟨t', task, n⟩]) t' :=
  ⟨by
    refine List.pairwise_append.mpr ⟨h.up, by simp, fun a ha b hb => ?_⟩
    obtain rfl := List.mem_singleton.mp hb
    exact ⟨Nat.le_trans (h.tk a ha) ht, hx a ha⟩, fun r hr => by
    rcases List.mem_append.mp hr with q | q
    · exact Nat.le_trans (h.tk r q) ht
    · obtain rfl := List.mem_singleton.mp q; exact Nat.le_refl _, fun r hr => by
    rcases List.mem_append.mp hr with q | q
    · exact h.ps r q
    · obtain rfl := List.mem_singleton.mp q; exact hn⟩
theorem RowsOk.mono {rs : List Row} {tick t' : Nat} (h : RowsOk rs tick) (ht : tick ≤ t') : RowsOk rs t' := ⟨h.up, fun r hr => Nat.le_trans (h.tk r hr) ht, h.ps⟩
def PRows (ds : List D) : Prop := ∃ (ns : List Int) (names : List Str) (hd : List Int), ds = [.lst (ns.map .int), .lst (names.map .str), .lst (hd.map .int)] ∧ HeadOk hd ∧ 0 < names.length ∧ names.length ≤ 100
def RRows (_ : List D) (out : Out) : Prop := ∃ (rs : List Row), out = .new (.lst (rs.map rowD)) ∧ RowsOk rs 400 ∧ rs.length ≤ 20
section
variable {P : Program} {w : World} {K : PySem.W.Frag} {mg : Str → Option Value} {base : Heap}
structure Dig (P : Program) (w : World) (K : PySem.W.Frag) (mg : Str → Option Value) (base : Heap) (fC fD : Addr) (fdC fdD : FuncData) : Prop where
  GC : FnOk P w K mg base CX0 1 fC fdC ["script", "k"] (spD K RCell)
  bC : Binds K fdC ["script", "k"] []
  mC : mg "_law_cell" = some (.ref fC)
  kC : PySem.W.keepIn K (.ref fC) = true
  GD : FnOk P w K mg base CX0 1 fD fdD ["cell", "sizes", "salt"] (spD K RDigits)
  bD : Binds K fdD ["cell", "sizes", "salt"] []
  mD : mg "_law_digits" = some (.ref fD)
  kD : PySem.W.keepIn K (.ref fD) = true
theorem sc_rows : FnScope ["script", "names", "head", "rows", "tick", "k", "drawn", "step", "task", "count", "row"] ["script", "names", "head"] (defScope s_rows) := ⟨rfl, rfl, rfl, by decide +kernel, rfl, by decide +kernel, by decide +kernel⟩
def dr6 : List Int := [5, 3, 3, 30, 12, 34]
theorem ok_rows {f fC fD : Addr} {fd fdC fdD : FuncData} (F : Fun K "_law_rows" "_law_rows" s_rows f fd) (T : Txt2 K mg) (Dg : Dig P w K mg base fC fD fdC fdD) :
    FnOk P w K mg base CX0 2 f fd ["script", "names", "head"] (spN K PRows RRows) := by
  refine dfnN F sc_rows (fun ds h => ?_) (fun ds h cdv A outer s H E hr => ?_)
  · obtain ⟨_, _, _, rfl, _⟩ := h; rfl
  · obtain ⟨ns, names, hd, rfl, hh, hn0, hn1⟩ := h
    have hha : ∀ (i : Nat) (s : Int), hs8[i]? = some s → (hd.map D.int)[i]? = some (D.int (dI hd i)) := fun i s h => by rw [List.getElem?_map, (hh i s h).1]; rfl
    have h3 := (hh 3 5 rfl).2
    have h4 := (hh 4 13 rfl).2
    have h6 := (hh 6 12 rfl).2
    have u3 := Int.emod_nonneg (dI hd 3) (b := 5) (by decide)
    have u3' := Int.emod_lt_of_pos (dI hd 3) (b := 5) (by decide)
    have u6 := Int.emod_nonneg (dI hd 6) (b := 3) (by decide)
    have u6' := Int.emod_lt_of_pos (dI hd 6) (b := 3) (by decide)
    obtain ⟨t0, ht0⟩ := Int.eq_ofNat_of_zero_le u3
    obtain ⟨n4, hn4⟩ := Int.eq_ofNat_of_zero_le h4.1
    refine dss_st (ds_own 3 sc_rows.nd (df_lst da_nil) ?_)
    refine dss_st (ds_set 4 sc_rows.nd ((de_mod (de_int1 T.int (de_ixL (de_var 2) de_int (atI_nat (hha 3 5 rfl)))) de_int (by decide)).eq (d' := .int (t0 : Int)) (congrArg D.int ht0)) ?_)
    refine dss_st (ds_range1 5 n4 (fun k ρ => ∃ (rs : List Row) (tick : Nat), RowsOk rs tick ∧ tick ≤ 400 ∧ rs.length ≤ k ∧
        ρ = [.dat (.lst (ns.map .int)), .dat (.lst (names.map .str)), .dat (.lst (hd.map .int)), .own (.lst (rs.map rowD)), .dat (.int (tick : Int)), .emp, .emp, .emp, .emp, .emp, .emp])
      sc_rows.nd T.range PassesOwn.never rfl (de_ixL (de_var 2) de_int (atI_nat (hha 4 13 rfl))) hn4 (by omega) (Up.intro ⟨[], t0, ⟨List.Pairwise.nil, (by intro r h; cases h), (by intro r h; cases h)⟩, by omega, Nat.le_refl _, rfl⟩ (by walk_at "le")) ?_ ?_)
    · rintro k ρ' hk ⟨rs, tick, hR, htick, hlen, rfl⟩
      refine ⟨(by intro m h; cases h), ?_⟩
      obtain ⟨dr, hdr⟩ : ∃ dr, dr = digits (cellN ns (3 + k)) dr6 ((40 + k : Nat) : Int) := ⟨_, rfl⟩
      have hd6 : ∀ (i : Nat) (s : Int), dr6[i]? = some s → (dr.map D.int)[i]? = some (D.int (dI dr i)) ∧ 0 ≤ dI dr i ∧ dI dr i < s := fun i s h => by
        subst hdr; exact ⟨dig_at _ _ (by decide) i h, (dig_get _ _ (by decide) i h).2⟩
      refine dss_st (ds_set 6 sc_rows.nd (df_call Dg.GD hr Dg.mD Dg.kD Dg.bD pass0 (da_cons (de_call Dg.GC hr Dg.mC Dg.kC Dg.bC pass0 (da_cons (de_var 0) (da_cons ((de_add de_int (de_var 5)).eq (d' := .int ((3 + k : Nat) : Int)) (congrArg D.int (by omega))) da_nil)) ⟨ns, 3 + k, rfl, rfl⟩)
        (da_cons (df_lst (da_cons de_int (da_cons de_int (da_cons de_int (da_cons de_int (da_cons de_int (da_cons de_int da_nil))))))).de (da_cons (de_add de_int (de_var 5)) da_nil)))
        (m := .lst (dr.map .int)) ⟨cellN ns (3 + k), dr6, 40 + k, by rfl, by decide, by omega, by decide, by rw [hdr]⟩).de ?_)
      have q0 := hd6 0 5 rfl
      have q1 := hd6 1 3 rfl
      have q2 := hd6 2 3 rfl
      have q3 := hd6 3 30 rfl
      have q5 := hd6 5 34 rfl
      obtain ⟨z, hz⟩ : ∃ z : Nat, atI [D.int 0, .int 0, .int 1, .int 2, .int 3] (dI dr 0) = some (.int (z : Int)) := by
        have : dI dr 0 = 0 ∨ dI dr 0 = 1 ∨ dI dr 0 = 2 ∨ dI dr 0 = 3 ∨ dI dr 0 = 4 := by omega
        rcases this with h | h | h | h | h <;> rw [h]
        · exact ⟨0, rfl⟩
        · exact ⟨0, rfl⟩
        · exact ⟨1, rfl⟩
        · exact ⟨2, rfl⟩
        · exact ⟨3, rfl⟩
      obtain ⟨z5, hz5⟩ := Int.eq_ofNat_of_zero_le q5.2.1
      refine dss_st (ds_set 7 sc_rows.nd (de_ixL (df_lst (da_cons de_int (da_cons de_int (da_cons de_int (da_cons de_int (da_cons de_int da_nil)))))).de (de_ixL (de_var 6) de_int (atI_nat q0.1)) hz) ?_)
      refine dss_st (ds_cut (fun ρ => ∃ z : Nat, ρ = [.dat (.lst (ns.map .int)), .dat (.lst (names.map .str)), .dat (.lst (hd.map .int)), .own (.lst (rs.map rowD)), .dat (.int (tick : Int)), .dat (.int (k : Int)), .dat (.lst (dr.map .int)), .dat (.int (z : Int)), .emp, .emp, .emp])
        (ds_if (dt_cmp c_eq (de_ixL (de_var 2) de_int (atI_nat (hha 5 4 rfl))) de_int) (fun _ => ?_) (fun _ => ?_)) ?_)
      · exact dss_st (ds_set 7 sc_rows.nd (de_ixL (de_var 6) de_int (atI_nat q5.1)) (dss_nil (Up.intro ⟨z5, rfl⟩ (by rw [hz5]; walk_at "le"))))
      · exact dss_nil (Up.intro ⟨z, rfl⟩ (by walk_at "le"))
      rintro ρ' ⟨z, rfl⟩
      refine dss_st (ds_set 4 sc_rows.nd ((de_min2 rfl T.min de_int (de_add (de_var 4) (de_var 7))).eq (d' := .int ((min 400 (tick + z) : Nat) : Int)) (congrArg D.int (by omega))) ?_)
      have hmod := Int.emod_nonneg (dI dr 1) (b := (names.length : Int)) (by omega)
      have hmod' := Int.emod_lt_of_pos (dI dr 1) (b := (names.length : Int)) (by omega)
      obtain ⟨j, hj⟩ := Int.eq_ofNat_of_zero_le hmod
      obtain ⟨task, htask⟩ : ∃ task, names[j]? = some task := ⟨_, List.getElem?_eq_getElem (by omega)⟩
      refine dss_st (ds_set 8 sc_rows.nd (de_ixL (de_var 1) ((de_mod (de_int1 T.int (de_ixL (de_var 6) de_int (atI_nat q1.1))) (de_lenL T.len (de_var 1)) (by rw [List.length_map]; omega)).eq (d' := .int (j : Int)) (by rw [List.length_map]; exact congrArg D.int hj)) (atI_nat (by rw [List.getElem?_map, htask]; rfl)) (d := .str task)) ?_)
      obtain ⟨c1, hc1, hc1'⟩ : ∃ c1 : Int, atI [D.int (1 + dI dr 2), .int (1 + dI dr 3), .int (1 + dI dr 2)] (dI hd 6 % 3) = some (.int c1) ∧ 1 ≤ c1 := by
        have : dI hd 6 % 3 = 0 ∨ dI hd 6 % 3 = 1 ∨ dI hd 6 % 3 = 2 := by omega
        rcases this with h | h | h <;> rw [h]
        · exact ⟨_, rfl, by omega⟩
        · exact ⟨_, rfl, by omega⟩
        · exact ⟨_, rfl, by omega⟩
      refine dss_st (ds_set 9 sc_rows.nd (de_ixL (df_lst (da_cons (de_add de_int (de_ixL (de_var 6) de_int (atI_nat q2.1))) (da_cons (de_add de_int (de_ixL (de_var 6) de_int (atI_nat q3.1))) (da_cons (de_add de_int (de_ixL (de_var 6) de_int (atI_nat q2.1))) da_nil)))).de (de_mod (de_int1 T.int (de_ixL (de_var 2) de_int (atI_nat (hha 6 12 rfl)))) de_int (by decide)) hc1) ?_)
      refine dss_st (ds_cut (fun ρ => ∃ c : Int, 1 ≤ c ∧ ρ = [.dat (.lst (ns.map .int)), .dat (.lst (names.map .str)), .dat (.lst (hd.map .int)), .own (.lst (rs.map rowD)), .dat (.int ((min 400 (tick + z) : Nat) : Int)), .dat (.int (k : Int)), .dat (.lst (dr.map .int)), .dat (.int (z : Int)), .dat (.str task), .dat (.int c), .emp])
        (ds_if (dt_cmp c_eq (de_ixL (de_var 2) de_int (atI_nat (hha 6 12 rfl))) de_int) (fun _ => ?_) (fun _ => ?_)) ?_)
      · refine dss_st (ds_set 9 sc_rows.nd (de_add (de_pow de_int de_int ⟨by decide, by decide, by decide⟩) (de_ixL (de_var 6) de_int (atI_nat q3.1))) (dss_nil (Up.intro ⟨_, ?_, rfl⟩ (by walk_at "le"))))
        have : (0 : Int) < 10 ^ (12 : Int).toNat := by decide
        omega
      · exact dss_nil (Up.intro ⟨c1, hc1', rfl⟩ (by walk_at "le"))
      rintro ρ' ⟨c, hc, rfl⟩
      refine dss_st (ds_if (dt_peek (dt_cmp (c_notInT (x := (((min 400 (tick + z) : Nat) : Int), task)) (xs := rs.map fun r => ((r.t : Int), r.s)) (roomU hr (by decide))) (de_tup (da_cons (de_var 4) (da_cons (de_var 8) da_nil)))
        ((df_lc1 10 (items := rs) (f := rowD) (fun _ => true) (fun r => .tup [.int (r.t : Int), .str r.s]) rfl sc_rows.nd (di_list (de_var 3)) rfl (by rw [sizeLine_eq]; omega)
          (fun r hr' s' H' C cl fp => ⟨dts_nil, fun _ => de_tup (da_cons (de_ixT (de_var 10) de_int) (da_cons (de_ixT (de_var 10) de_int) da_nil))⟩)).de.eq (by
            show D.lst _ = D.lst _
            rw [List.filter_eq_self.mpr (by simp), List.map_map]; rfl)))) (fun hz => ?_) (fun hz => ?_))
      · have hz : ∀ r ∈ rs, ¬ (r.t = min 400 (tick + z) ∧ r.s = task) := by
          simp at hz
          intro r hr' ⟨e1, e2⟩
          exact hz r hr' (by omega) e2
        refine dss_st (ds_append 3 (ds := rs.map rowD) (de_tup (da_cons (de_var 4) (da_cons (de_var 8) (da_cons (de_var 9) da_nil)))) (by rw [List.length_map, sizeLine_eq]; omega) ?_)
        refine dss_nil (dss_nil (Up.intro ⟨rs ++ [⟨min 400 (tick + z), task, c⟩], min 400 (tick + z), hR.add (by omega) hc hz, by omega, by rw [List.length_append]; simp; omega, rfl⟩ (by rw [List.map_append]; walk_at "le")))
      · exact dss_nil (dss_nil (Up.intro ⟨rs, min 400 (tick + z), hR.mono (by omega), by omega, by omega, rfl⟩ (by walk_at "le")))
    · rintro ρ' ⟨rs, tick, hR, htick, hlen, rfl⟩
      exact dss_st (ds_retOwn 3 (m := .lst (rs.map rowD)) ⟨rs, rfl, hR.mono htick, by omega⟩)
end
end K47
set_option Elab.async false
set_option linter.all false
set_option maxRecDepth 100000
set_option maxHeartbeats 4000000
namespace K47
open PySem PySem.Spec PyProof.Rows L2 DL
local macro_rules | `(tactic| walk_at "le") => `(tactic| (first | exact trivial | exact ⟨.inl rfl, by walk_at "le"⟩ | exact ⟨.inr ⟨rfl, rfl⟩, by walk_at "le"⟩))
abbrev s_kept : Stmt := top 25
abbrev s_slack : Stmt := top 26
def Keeps (rs : List Row) (task : Str) (burst rn rd : Int) : Prop := ∀ f b : Nat, f < b → cnt rs task f b ≤ burst + rn * ((b : Int) - f) / rd
theorem Keeps.ok {rs : List Row} {task : Str} {burst rn rd : Int} (h : Keeps rs task burst rn rd) (hd : 1 ≤ rd) : IsFirst rs task burst rn rd none := by
  intro b f _ hf hbad
  have h1 := h f b hf
  unfold Bad at hbad
  have h2 : (cnt rs task f b - burst) * rd ≤ (rn * ((b : Int) - f) / rd) * rd := Int.mul_le_mul_of_nonneg_right (by omega) (by omega)
  have h3 := Int.ediv_mul_le (rn * ((b : Int) - f)) (b := rd) (by omega)
  omega
theorem sum_ge (rs : List Row) (task : Str) (lo hi : Nat) (h : ∀ r ∈ rs, r.t < hi) : ((rs.filter fun r => decide ((lo : Int) ≤ (r.t : Int)) && decide (r.s = task)).map (·.n)).sum = cnt rs task lo hi := by
  induction rs with
  | nil => rfl
  | cons r rs ih =>
    have ih := ih fun r hr => h r (by simp [hr])
    have h1 := h r (by simp)
    simp only [cnt]
    by_cases c : lo ≤ r.t ∧ r.s = task
    · rw [List.filter_cons_of_pos (by simp [c]), List.map_cons, List.sum_cons, ih, if_pos ⟨c.2, c.1, h1⟩]
    · rw [List.filter_cons_of_neg (by simp; intro q; exact fun e => c ⟨q, e⟩), ih, if_neg (fun q => c ⟨q.2.1, q.1⟩), Int.zero_add]
theorem sum_in (rs : List Row) (task : Str) (lo hi : Nat) : ((rs.filter fun r => decide (r.s = task) && (decide ((lo : Int) ≤ (r.t : Int)) && decide ((r.t : Int) < (hi : Int)))).map (·.n)).sum = cnt rs task lo hi := by
  induction rs with
  | nil => rfl
  | cons r rs ih =>
    simp only [cnt]
    by_cases c : r.s = task ∧ lo ≤ r.t ∧ r.t < hi
    · rw [List.filter_cons_of_pos (by simp [c]), List.map_cons, List.sum_cons, ih, if_pos c]
    · rw [List.filter_cons_of_neg (by simp; intro q q2; exact Nat.le_of_not_lt fun q3 => c ⟨q, q2, q3⟩), ih, if_neg c, Int.zero_add]
theorem ediv_mono {a b c : Int} (h : a ≤ b) (hc : 1 ≤ c) : a / c ≤ b / c := Int.ediv_le_ediv (by omega) h
theorem cnt_past (rs : List Row) (task : Str) {f T b : Nat} (h : ∀ r ∈ rs, r.t < T) (h1 : f ≤ T) (h2 : T ≤ b) : cnt rs task f b = cnt rs task f T := by
  rw [cnt_split rs task h1 h2, cnt_none rs task (lo := T) (hi := b) (fun r hr _ q => by have := h r hr; omega)]; omega
theorem rn_mono {rn a b rd : Int} (h0 : 0 ≤ rn) (h : a ≤ b) (hd : 1 ≤ rd) : rn * a / rd ≤ rn * b / rd := ediv_mono (Int.mul_le_mul_of_nonneg_left h h0) hd
theorem Keeps.add {rs : List Row} {task : Str} {burst rn rd : Int} (h : Keeps rs task burst rn rd) (h0 : 0 ≤ rn) (hd : 1 ≤ rd) {T : Nat} {c : Int} (hT : ∀ r ∈ rs, r.t < T) (hc : ∀ f : Nat, f ≤ T → c ≤ burst + rn * ((T : Int) - f + 1) / rd - cnt rs task f T) : Keeps (rs ++ [⟨T, task, c⟩]) task burst rn rd := by
  intro f b hf
  rw [cnt_app]
  simp only [cnt]
  by_cases q : f ≤ T ∧ T < b
  · rw [if_pos ⟨trivial, q.1, q.2⟩, cnt_past rs task hT q.1 (by omega)]
    have h1 := hc f q.1
    have h2 := rn_mono h0 (a := (T : Int) - f + 1) (b := (b : Int) - f) (by omega) hd
    omega
  · rw [if_neg (fun z => q ⟨z.2.1, z.2.2⟩)]
    have := h f b hf
    omega
theorem Keeps.other {rs : List Row} {task : Str} {burst rn rd : Int} (h : Keeps rs task burst rn rd) {x : Row} (hx : x.s ≠ task) : Keeps (rs ++ [x]) task burst rn rd := by
  intro f b hf
  rw [cnt_app]
  simp only [cnt]
  rw [if_neg (fun z => hx z.1)]
  have := h f b hf
  omega
section
variable {P : Program} {w : World} {K : PySem.W.Frag} {mg : Str → Option Value} {base : Heap}
theorem sc_kept : FnScope ["script", "names", "burst", "rate", "rows", "tick", "drawn", "room", "first", "come", "row", "count"] ["script", "names", "burst", "rate"] (defScope s_kept) := ⟨rfl, rfl, rfl, by decide +kernel, rfl, by decide +kernel, by decide +kernel⟩
def dr3 : List Int := [3, 97, 4]
theorem ok_kept {f fC fD : Addr} {fd fdC fdD : FuncData} (F : Fun K "_law_kept" "_law_kept" s_kept f fd) (T : Txt2 K mg) (Dg : Dig P w K mg base fC fD fdC fdD)
    (ns : List Int) (names : List Str) (task : Str) (burst rn rd : Int) (hn0 : names[0]? = some task) (hst : task ≠ "strangers") (hb1 : 1 ≤ burst) (hr0 : 0 ≤ rn) (hr1 : rn ≤ 1000) (hd0 : 1 ≤ rd) (hd1 : rd ≤ 1000) :
    FnOk P w K mg base CX0 2 f fd ["script", "names", "burst", "rate"] (spN K (fun ds => ds = [.lst (ns.map .int), .lst (names.map .str), .int burst, rateD rn rd])
      (fun _ out => ∃ rs : List Row, out = .new (.lst (rs.map rowD)) ∧ RowsOk rs 20 ∧ (∀ r ∈ rs, r.t < 20) ∧ rs.length ≤ 40 ∧ Keeps rs task burst rn rd)) := by
  refine dfnN F sc_kept (fun ds h => ?_) (fun ds h cdv A outer s H E hr => ?_)
  · subst h; rfl
  · subst h
    have hnm : (names.map D.str)[0]? = some (.str task) := by rw [List.getElem?_map, hn0]; rfl
    refine dss_st (ds_own 4 sc_kept.nd (df_lst da_nil) ?_)
    refine dss_st (ds_range1 5 20 (fun k ρ => ∃ (rs : List Row), RowsOk rs k ∧ (∀ r ∈ rs, r.t < k) ∧ rs.length ≤ 2 * k ∧ Keeps rs task burst rn rd ∧
        ρ = [.dat (.lst (ns.map .int)), .dat (.lst (names.map .str)), .dat (.int burst), .dat (rateD rn rd), .own (.lst (rs.map rowD)), .emp, .emp, .emp, .emp, .emp, .emp, .emp])
      sc_kept.nd T.range PassesOwn.never rfl de_int rfl (by decide) (Up.intro ⟨[], ⟨List.Pairwise.nil, (by intro r h; cases h), (by intro r h; cases h)⟩, (by intro r h; cases h), Nat.le_refl _, ?_, rfl⟩ (by walk_at "le")) ?_ ?_)
    · intro f b hf
      have := Int.ediv_nonneg (a := rn * ((b : Int) - f)) (b := rd) (Int.mul_nonneg hr0 (by omega)) (by omega)
      show (0 : Int) ≤ _
      omega
    · rintro k ρ' hk ⟨rs, hR, hlt, hlen, hK, rfl⟩
      refine ⟨(by intro m h; cases h), ?_⟩
      obtain ⟨dr, hdr⟩ : ∃ dr, dr = digits (cellN ns (20 + k)) dr3 ((60 + k : Nat) : Int) := ⟨_, rfl⟩
      have hd3 : ∀ (i : Nat) (s : Int), dr3[i]? = some s → (dr.map D.int)[i]? = some (D.int (dI dr i)) ∧ 0 ≤ dI dr i ∧ dI dr i < s := fun i s h => by
        subst hdr; exact ⟨dig_at _ _ (by decide) i h, (dig_get _ _ (by decide) i h).2⟩
      refine dss_st (ds_set 6 sc_kept.nd (df_call Dg.GD hr Dg.mD Dg.kD Dg.bD pass0 (da_cons (de_call Dg.GC hr Dg.mC Dg.kC Dg.bC pass0 (da_cons (de_var 0) (da_cons ((de_add de_int (de_var 5)).eq (d' := .int ((20 + k : Nat) : Int)) (congrArg D.int (by omega))) da_nil)) ⟨ns, 20 + k, rfl, rfl⟩)
        (da_cons (df_lst (da_cons de_int (da_cons de_int (da_cons de_int da_nil)))).de (da_cons (de_add de_int (de_var 5)) da_nil)))
        (m := .lst (dr.map .int)) ⟨cellN ns (20 + k), dr3, 60 + k, by rfl, by decide, by omega, by decide, by rw [hdr]⟩).de ?_)
      have q0 := hd3 0 3 rfl
      have q1 := hd3 1 97 rfl
      have q2 := hd3 2 4 rfl
      refine dss_st (ds_set 7 sc_kept.nd de_int ?_)
      refine dss_st (ds_cut (fun ρ => ∃ room : Int, 0 ≤ room ∧ (∀ f : Nat, f ≤ k → room ≤ burst + rn * ((k : Int) - f + 1) / rd - cnt rs task f k) ∧
          ρ = [.dat (.lst (ns.map .int)), .dat (.lst (names.map .str)), .dat (.int burst), .dat (rateD rn rd), .own (.lst (rs.map rowD)), .dat (.int (k : Int)), .dat (.lst (dr.map .int)), .dat (.int room), .emp, .emp, .emp, .emp])
        (ds_range1 8 (k + 1) (fun f ρ => ∃ room : Int, 0 ≤ room ∧ (∀ f' : Nat, f' < f → room ≤ burst + rn * ((k : Int) - f' + 1) / rd - cnt rs task f' k) ∧
            ρ = [.dat (.lst (ns.map .int)), .dat (.lst (names.map .str)), .dat (.int burst), .dat (rateD rn rd), .own (.lst (rs.map rowD)), .dat (.int (k : Int)), .dat (.lst (dr.map .int)), .dat (.int room), .emp, .emp, .emp, .emp])
          sc_kept.nd T.range PassesOwn.never rfl (de_add (de_var 5) de_int) (by omega) (by omega) (Up.intro ⟨400, by decide, (by intro f' h; omega), rfl⟩ (by walk_at "le")) ?_ ?_) ?_)
      · rintro f' ρ' hf' ⟨room, h0, h1, rfl⟩
        refine ⟨(by intro m h; cases h), ?_⟩
        refine dss_st (ds_set 9 sc_kept.nd ((de_peek (de_sum (ns := (rs.filter fun r => decide ((f' : Int) ≤ (r.t : Int)) && decide (r.s = task)).map (·.n)) rfl T.sum
          ((df_lc1 10 (items := rs) (f := rowD) (fun r => decide ((f' : Int) ≤ (r.t : Int)) && decide (r.s = task)) (fun r => .int r.n) rfl sc_kept.nd (di_list (de_var 4)) rfl (by rw [sizeLine_eq]; omega)
            (fun r hr' s' H' C cl fp => ⟨dts_one (dw_and (dt_cmp c_ge (de_ixT (de_var 10) de_int (d := .int (r.t : Int))) (de_var 8)) (fun _ => dw_and1 (dt_cmp c_eqS (de_ixT (de_var 10) de_int (d := .str r.s)) (de_ixL (de_var 1) de_int (atI_nat hnm))))).dt,
              fun _ => de_ixT (de_var 10) de_int⟩)).de.eq (by
              show D.lst _ = D.lst _
              rw [List.map_map]; rfl)))).eq (d' := .int (cnt rs task f' k)) (by rw [sum_ge rs task f' k hlt])) ?_)
        refine dss_st (ds_set 7 sc_kept.nd (de_min2 rfl T.min (de_var 7) (de_sub (de_add (de_var 2) (de_fdiv (de_mul (de_ixT (de_var 3) de_int (d := .int rn)) (de_add (de_sub (de_var 5) (de_var 8)) de_int) (.inl (by omega))) (de_ixT (de_var 3) de_int (d := .int rd)) (by omega))) (de_var 9))) ?_)
        refine dss_nil (Up.intro ⟨_, ?_, ?_, rfl⟩ (by walk_at "le"))
        · have hnn : 0 ≤ burst + rn * ((k : Int) - f' + 1) / rd - cnt rs task f' k := by
            by_cases q : f' < k
            · have a1 := hK f' k q
              have a2 := rn_mono hr0 (a := (k : Int) - f') (b := (k : Int) - f' + 1) (by omega) hd0
              omega
            · have : f' = k := by omega
              subst this
              rw [cnt_none rs task (lo := f') (hi := f') (fun r _ _ q => by omega)]
              have := Int.ediv_nonneg (a := rn * ((f' : Int) - f' + 1)) (b := rd) (Int.mul_nonneg hr0 (by omega)) (by omega)
              omega
          split <;> omega
        · intro f2 hf2
          by_cases q : f2 < f'
          · have := h1 f2 q
            split <;> omega
          · have : f2 = f' := by omega
            subst this
            split <;> omega
      · rintro ρ' ⟨room, h0, h1, rfl⟩
        exact Up.intro ⟨room, h0, fun f hf => h1 f (by omega), rfl⟩ (by walk_at "le")
      rintro ρ' ⟨room, h0, h1, rfl⟩
      refine dss_st (ds_set 11 sc_kept.nd (de_mod (de_int1 T.int (de_ixL (de_var 6) de_int (atI_nat q1.1))) (de_add (de_var 7) de_int) (by omega)) ?_)
      have c0 := Int.emod_nonneg (dI dr 1) (b := room + 1) (by omega)
      have c1 := Int.emod_lt_of_pos (dI dr 1) (b := room + 1) (by omega)
      generalize hcc : dI dr 1 % (room + 1) = c at c0 c1
      refine dss_st (ds_cut (fun ρ => ∃ rs' : List Row, RowsOk rs' k ∧ (∀ r ∈ rs', r.t < k + 1) ∧ (∀ r ∈ rs', ¬ (r.t = k ∧ r.s = "strangers")) ∧ rs'.length ≤ 2 * k + 1 ∧ Keeps rs' task burst rn rd ∧
          ρ = [.dat (.lst (ns.map .int)), .dat (.lst (names.map .str)), .dat (.int burst), .dat (rateD rn rd), .own (.lst (rs'.map rowD)), .dat (.int (k : Int)), .dat (.lst (dr.map .int)), .emp, .emp, .emp, .emp, .emp])
        (ds_if (dw_and (dt_cmp c_gt (de_ixL (de_var 6) de_int (atI_nat q0.1)) de_int) (fun _ => dw_and1 (dt_cmp c_gt (de_var 11) de_int))).dt (fun hz => ?_) (fun hz => ?_)) ?_)
      · have hc1 : 1 ≤ c := by simp at hz; omega
        refine dss_st (ds_append 4 (ds := rs.map rowD) (de_tup (da_cons (de_var 5) (da_cons (de_ixL (de_var 1) de_int (atI_nat hnm)) (da_cons (de_var 11) da_nil)))) (by rw [List.length_map, sizeLine_eq]; omega) ?_)
        refine dss_nil (Up.intro ⟨rs ++ [⟨k, task, c⟩], hR.add (Nat.le_refl _) hc1 (fun r hr' q => by have := hlt r hr'; omega), ?_, ?_, by rw [List.length_append]; simp; omega, hK.add hr0 hd0 hlt (fun f hf => by have := h1 f hf; omega), rfl⟩ (by rw [List.map_append]; walk_at "le"))
        · intro r hr'
          rcases List.mem_append.mp hr' with q | q
          · have := hlt r q; omega
          · obtain rfl := List.mem_singleton.mp q; exact Nat.lt_succ_self k
        · intro r hr' q2
          rcases List.mem_append.mp hr' with q | q
          · have := hlt r q; omega
          · obtain rfl := List.mem_singleton.mp q; exact hst q2.2
      · exact dss_nil (Up.intro ⟨rs, hR, fun r q => by have := hlt r q; omega, fun r q z => by have := hlt r q; omega, by omega, hK, rfl⟩ (by walk_at "le"))
      rintro ρ' ⟨rs', hR', hlt', hno, hlen', hK', rfl⟩
      refine dss_st (ds_if (dt_cmp c_eq (de_ixL (de_var 6) de_int (atI_nat q2.1)) de_int) (fun hz => ?_) (fun hz => ?_))
      · refine dss_st (ds_append 4 (ds := rs'.map rowD) (de_tup (da_cons (de_var 5) (da_cons de_str (da_cons (de_add de_int (de_ixL (de_var 6) de_int (atI_nat q1.1))) da_nil)))) (by rw [List.length_map, sizeLine_eq]; omega) ?_)
        refine dss_nil (dss_nil (Up.intro ⟨rs' ++ [⟨k, "strangers", 1 + dI dr 1⟩], (hR'.add (Nat.le_refl _) (by omega) hno).mono (by omega), ?_, by rw [List.length_append]; simp; omega, hK'.other (fun e => hst e.symm), rfl⟩ (by rw [List.map_append]; walk_at "le")))
        intro r hr'
        rcases List.mem_append.mp hr' with q | q
        · exact hlt' r q
        · obtain rfl := List.mem_singleton.mp q; exact Nat.lt_succ_self k
      · exact dss_nil (dss_nil (Up.intro ⟨rs', hR'.mono (by omega), hlt', by omega, hK', rfl⟩ (by walk_at "le")))
    · rintro ρ' ⟨rs, hR, hlt, hlen, hK, rfl⟩
      exact dss_st (ds_retOwn 4 (m := .lst (rs.map rowD)) ⟨rs, rfl, hR, hlt, by omega, hK⟩)
end
end K47
set_option Elab.async false
set_option linter.all false
set_option maxRecDepth 100000
set_option maxHeartbeats 4000000
namespace K47
open PySem PySem.Spec PyProof.Rows L2 DL
local macro_rules | `(tactic| walk_at "le") => `(tactic| (first | exact trivial | exact ⟨.inl rfl, by walk_at "le"⟩ | exact ⟨.inr ⟨rfl, rfl⟩, by walk_at "le"⟩))
abbrev s_grown : Stmt := top 29
def vl (rs : List Row) (task : Str) (burst rn rd : Int) (f b : Nat) : Int := burst + rn * ((b : Int) - f) / rd - cnt rs task f b
structure SlackIs (rs : List Row) (task : Str) (burst rn rd : Int) (tau : Nat) (P : Nat → Nat → Prop) (sl : Int) : Prop where
  nn : 0 ≤ sl
  le : ∀ f b, f ≤ tau → tau < b → b < 22 → P f b → sl ≤ vl rs task burst rn rd f b
  eq : sl = 400 ∨ ∃ f b, f ≤ tau ∧ tau < b ∧ b < 22 ∧ sl = vl rs task burst rn rd f b
theorem SlackIs.step {rs : List Row} {task : Str} {burst rn rd : Int} {tau : Nat} {P P' : Nat → Nat → Prop} {sl : Int} (h : SlackIs rs task burst rn rd tau P sl) (f b : Nat) (hf : f ≤ tau) (hb : tau < b) (hb2 : b < 22) (hv : 0 ≤ vl rs task burst rn rd f b)
    (hP : ∀ f' b', P' f' b' → P f' b' ∨ (f' = f ∧ b' = b)) : SlackIs rs task burst rn rd tau P' (if vl rs task burst rn rd f b < sl then vl rs task burst rn rd f b else sl) := by
  refine ⟨by have := h.nn; split <;> omega, fun f' b' h1 h2 h3 h4 => ?_, ?_⟩
  · rcases hP f' b' h4 with q | ⟨rfl, rfl⟩
    · have := h.le f' b' h1 h2 h3 q
      split <;> omega
    · split <;> omega
  · split
    · exact .inr ⟨f, b, hf, hb, hb2, rfl⟩
    · exact h.eq
theorem keeps_vl {rs : List Row} {task : Str} {burst rn rd : Int} (hK : Keeps rs task burst rn rd) {f b : Nat} (h : f < b) : 0 ≤ vl rs task burst rn rd f b := by
  have := hK f b h
  unfold vl; omega
/-- rows with one count grown -/
def grownL (rs : List Row) (at' : Nat) (r : Row) (m : Int) : List Row := rs.take at' ++ [⟨r.t, r.s, r.n + m⟩] ++ rs.drop (at' + 1)
theorem grow_parts {rs : List Row} {i : Nat} {r : Row} (h : rs[i]? = some r) : rs.take i ++ [r] ++ rs.drop (i + 1) = rs := by
  obtain ⟨hi, rfl⟩ := List.getElem?_eq_some_iff.mp h
  rw [List.append_assoc, List.singleton_append, ← List.drop_eq_getElem_cons hi, List.take_append_drop]
theorem cnt_grown {rs : List Row} {i : Nat} {r : Row} (h : rs[i]? = some r) (m : Int) (task : Str) (f b : Nat) : cnt (grownL rs i r m) task f b = cnt rs task f b + (if r.s = task ∧ f ≤ r.t ∧ r.t < b then m else 0) := by
  have e : cnt rs task f b = cnt (rs.take i ++ [r] ++ rs.drop (i + 1)) task f b := by rw [grow_parts h]
  rw [e]
  unfold grownL
  simp only [cnt_app, cnt]
  split <;> omega
theorem grown_ok {rs : List Row} {i : Nat} {r : Row} (h : rs[i]? = some r) {m : Int} (hm : 0 ≤ m) {tick : Nat} (R : RowsOk rs tick) : RowsOk (grownL rs i r m) tick := by
  have hr := List.mem_of_getElem? h
  have hmem : ∀ x ∈ grownL rs i r m, x ∈ rs ∨ x = ⟨r.t, r.s, r.n + m⟩ := by
    intro x hx
    unfold grownL at hx
    rcases List.mem_append.mp hx with hx | hx
    · rcases List.mem_append.mp hx with hx | hx
      · exact .inl (List.mem_of_mem_take hx)
      · exact .inr (List.mem_singleton.mp hx)
    · exact .inl (List.mem_of_mem_drop hx)
  refine ⟨?_, fun x hx => ?_, fun x hx => ?_⟩
  · have key : ∀ xs : List Row, xs.Pairwise (fun a b => a.t ≤ b.t ∧ ¬ (a.t = b.t ∧ a.s = b.s)) ↔ (xs.map fun r => (r.t, r.s)).Pairwise (fun a b => a.1 ≤ b.1 ∧ ¬ (a.1 = b.1 ∧ a.2 = b.2)) := fun xs => by rw [List.pairwise_map]
    rw [key]
    have e : (grownL rs i r m).map (fun r => (r.t, r.s)) = rs.map fun r => (r.t, r.s) := by
      have : rs.map (fun r => (r.t, r.s)) = (rs.take i ++ [r] ++ rs.drop (i + 1)).map fun r => (r.t, r.s) := by rw [grow_parts h]
      rw [this]
      unfold grownL
      simp only [List.map_append, List.map_cons, List.map_nil]
    rw [e]
    exact (key rs).mp R.up
  · rcases hmem x hx with q | rfl
    · exact R.tk x q
    · exact R.tk r hr
  · rcases hmem x hx with q | rfl
    · exact R.ps x q
    · have := R.ps r hr
      show 1 ≤ r.n + m
      omega
theorem grown_len {rs : List Row} {i : Nat} {r : Row} (h : rs[i]? = some r) (m : Int) : (grownL rs i r m).length = rs.length := by
  have e : rs.length = (rs.take i ++ [r] ++ rs.drop (i + 1)).length := by rw [grow_parts h]
  rw [e]
  unfold grownL
  simp only [List.length_append, List.length_cons, List.length_nil]
/-- grown by one more than the slack: a stretch with too many -/
theorem grown_bad {rs : List Row} {task : Str} {burst rn rd : Int} {i : Nat} {r : Row} (h : rs[i]? = some r) (hs : r.s = task) (hr0 : 0 ≤ rn) (hd : 1 ≤ rd) {sl : Int} {f b : Nat} (hf : f ≤ r.t) (hb : r.t < b) (e : sl = vl rs task burst rn rd f b) :
    ¬ IsFirst (grownL rs i r (sl + 1)) task burst rn rd none := by
  intro hno
  have hmem : (⟨r.t, r.s, r.n + (sl + 1)⟩ : Row) ∈ grownL rs i r (sl + 1) := by unfold grownL; simp
  -- the least stretch end behind which no job comes up to b
  obtain ⟨b', ⟨h1, h2, h3⟩, hmin⟩ := least (fun b' => r.t < b' ∧ b' ≤ b ∧ ∀ x ∈ grownL rs i r (sl + 1), x.s = task → b' ≤ x.t → ¬ x.t < b) b ⟨hb, Nat.le_refl _, fun x _ _ q q2 => by omega⟩
  have hhit : Hit (grownL rs i r (sl + 1)) task b' := by
    by_cases q : ∃ x ∈ grownL rs i r (sl + 1), x.s = task ∧ x.t + 1 = b'
    · exact q
    · exfalso
      have hlt : r.t < b' - 1 := by
        rcases Nat.lt_or_ge r.t (b' - 1) with z | z
        · exact z
        · exact absurd ⟨_, hmem, hs, show r.t + 1 = b' by omega⟩ q
      refine hmin (b' - 1) (by omega) ⟨hlt, by omega, fun x hx hxs hxt hxb => ?_⟩
      by_cases z : b' ≤ x.t
      · exact h3 x hx hxs z hxb
      · exact q ⟨x, hx, hxs, by omega⟩
  refine hno b' f hhit (by omega) ?_
  have hc : cnt (grownL rs i r (sl + 1)) task f b' = cnt (grownL rs i r (sl + 1)) task f b := by
    rw [cnt_split (grownL rs i r (sl + 1)) task (lo := f) (mi := b') (hi := b) (by omega) h2, cnt_none _ task (lo := b') (hi := b) (fun x hx hxs hxt => h3 x hx hxs hxt)]
    omega
  unfold Bad
  rw [hc, cnt_grown h, if_pos ⟨hs, hf, hb⟩, e]
  unfold vl
  have e2 : cnt rs task f b + (burst + rn * ((b : Int) - f) / rd - cnt rs task f b + 1) - burst = rn * ((b : Int) - f) / rd + 1 := by omega
  rw [e2]
  have h4 := Int.lt_ediv_add_one_mul_self (rn * ((b : Int) - f)) (b := rd) (by omega)
  have h5 : rn * ((b' : Int) - f) ≤ rn * ((b : Int) - f) := Int.mul_le_mul_of_nonneg_left (by omega) hr0
  omega
section
variable {P : Program} {w : World} {K : PySem.W.Frag} {mg : Str → Option Value} {base : Heap}
theorem sc_slack : FnScope ["rows", "task", "burst", "rate", "tick", "slack", "first", "behind", "come", "row"] ["rows", "task", "burst", "rate", "tick"] (defScope s_slack) := ⟨rfl, rfl, rfl, by decide +kernel, rfl, by decide +kernel, by decide +kernel⟩
theorem ok_slack {f : Addr} {fd : FuncData} (F : Fun K "_law_slack" "_law_slack" s_slack f fd) (T : Txt2 K mg)
    (rs : List Row) (task : Str) (burst rn rd : Int) (tau : Nat) (hlen : rs.length ≤ 100) (hps : ∀ r ∈ rs, 1 ≤ r.n) (hK : Keeps rs task burst rn rd) (htau : tau < 20) (hr0 : 0 ≤ rn) (hr1 : rn ≤ 60) (hd0 : 1 ≤ rd) (hd1 : rd ≤ 1000) (hb : burst ≤ 20) :
    FnOk P w K mg base CX0 1 f fd ["rows", "task", "burst", "rate", "tick"] (spN K (fun ds => ds = [rowsD rs, .str task, .int burst, rateD rn rd, .int (tau : Int)])
      (fun _ out => ∃ sl : Int, out = .val (.int sl) ∧ 0 ≤ sl ∧ ∃ f b, f ≤ tau ∧ tau < b ∧ sl = vl rs task burst rn rd f b)) := by
  refine dfnN F sc_slack (fun ds h => ?_) (fun ds h cdv A outer s H E hr => ?_)
  · subst h; rfl
  · subst h
    refine dss_st (ds_set 5 sc_slack.nd de_int ?_)
    refine dss_st (ds_range1 6 (tau + 1) (fun k ρ => ∃ sl : Int, SlackIs rs task burst rn rd tau (fun f b => f < k) sl ∧
        ρ = [.dat (rowsD rs), .dat (.str task), .dat (.int burst), .dat (rateD rn rd), .dat (.int (tau : Int)), .dat (.int sl), .emp, .emp, .emp, .emp])
      sc_slack.nd T.range PassesOwn.never rfl (de_add (de_var 4) de_int) (by omega) (by omega) (Up.intro ⟨400, ⟨by decide, (by intro f b _ _ _ h; omega), .inl rfl⟩, rfl⟩ (by walk_at "le")) ?_ ?_)
    · rintro k ρ' hk ⟨sl, hS, rfl⟩
      refine ⟨(by intro m h; cases h), ?_⟩
      refine dss_st (ds_range2 7 (21 - tau) (fun j ρ => ∃ sl : Int, SlackIs rs task burst rn rd tau (fun f b => f < k ∨ (f = k ∧ b < tau + 1 + j)) sl ∧
          ρ = [.dat (rowsD rs), .dat (.str task), .dat (.int burst), .dat (rateD rn rd), .dat (.int (tau : Int)), .dat (.int sl), .dat (.int (k : Int)), .emp, .emp, .emp])
        sc_slack.nd T.range PassesOwn.never rfl (de_add (de_var 4) de_int) de_int (by omega) ⟨by omega, by omega, by decide, by decide⟩ (Up.intro ⟨sl, ⟨hS.nn, (by intro f b h1 h2 h3 h4; exact hS.le f b h1 h2 h3 (by omega)), hS.eq⟩, rfl⟩ (by walk_at "le")) ?_ ?_)
      · rintro j ρ' hj ⟨sl, hS, rfl⟩
        refine ⟨(by intro m h; cases h), ?_⟩
        rw [show ((tau : Int) + 1 + (j : Int)) = ((tau + 1 + j : Nat) : Int) by omega]
        generalize hbb : tau + 1 + j = b at hS
        refine dss_st (ds_set 8 sc_slack.nd ((de_sum (ns := (rs.filter fun r => decide (r.s = task) && (decide ((k : Int) ≤ (r.t : Int)) && decide ((r.t : Int) < (b : Int)))).map (·.n)) rfl T.sum
          ((df_lc1 9 (items := rs) (f := rowD) (fun r => decide (r.s = task) && (decide ((k : Int) ≤ (r.t : Int)) && decide ((r.t : Int) < (b : Int)))) (fun r => .int r.n) rfl sc_slack.nd (di_list (de_var 0)) rfl (by rw [sizeLine_eq]; omega)
            (fun r hr' s' H' C cl fp => ⟨dts_one (dw_and (dt_cmp c_eqS (de_ixT (de_var 9) de_int (d := .str r.s)) (de_var 1)) (fun _ => dw_and (dt_cmp c_le (de_var 6) (de_ixT (de_var 9) de_int (d := .int (r.t : Int)))) (fun _ => dw_and1 (dt_cmp c_lt (de_ixT (de_var 9) de_int (d := .int (r.t : Int))) (de_var 7))))).dt,
              fun _ => de_ixT (de_var 9) de_int⟩)).de.eq (by
              show D.lst _ = D.lst _
              rw [List.map_map]; rfl))).eq (d' := .int (cnt rs task k b)) (by rw [sum_in rs task k b])) ?_)
        refine dss_st (ds_set 5 sc_slack.nd (de_min2 rfl T.min (de_var 5) (de_sub (de_add (de_var 2) (de_fdiv (de_mul (de_ixT (de_var 3) de_int (d := .int rn)) (de_sub (de_var 7) (de_var 6)) (.inl (by omega))) (de_ixT (de_var 3) de_int (d := .int rd)) (by omega))) (de_var 8))) ?_)
        refine dss_nil (Up.intro ⟨_, hS.step k b (by omega) (by omega) (by omega) (keeps_vl hK (by omega)) (fun f' b' q => ?_), rfl⟩ (by walk_at "le"))
        omega
      · rintro ρ' ⟨sl, hS, rfl⟩
        exact dss_nil (Up.intro ⟨sl, ⟨hS.nn, (by intro f b h1 h2 h3 h4; exact hS.le f b h1 h2 h3 (by omega)), hS.eq⟩, rfl⟩ (by walk_at "le"))
    · rintro ρ' ⟨sl, hS, rfl⟩
      refine dss_st (ds_ret (de_var 5) ⟨sl, rfl, hS.nn, ?_⟩)
      rcases hS.eq with h | ⟨f, b, h1, h2, _, h3⟩
      · exfalso
        have h1 := hS.le tau (tau + 1) (Nat.le_refl _) (by omega) (by omega) (by omega)
        unfold vl at h1
        have h2 := cnt_nonneg rs task tau (tau + 1) hps
        have h3 : rn * (((tau + 1 : Nat) : Int) - (tau : Int)) / rd ≤ rn * (((tau + 1 : Nat) : Int) - (tau : Int)) := Int.ediv_le_self _ (Int.mul_nonneg hr0 (by omega))
        have h4 : (((tau + 1 : Nat) : Int) - (tau : Int)) = 1 := by omega
        rw [h4] at h3 h1
        omega
      · exact ⟨f, b, h1, h2, h3⟩
def RGrown (ds : List D) (out : Out) : Prop := ∃ (rs : List Row) (i : Nat) (r : Row) (m : Int), ds = [rowsD rs, .int (i : Int), .int m] ∧ rs[i]? = some r ∧ rs.length ≤ 1000 ∧ out = .new (.lst ((grownL rs i r m).map rowD))
theorem sc_grown : FnScope ["rows", "at", "more", "row"] ["rows", "at", "more"] (defScope s_grown) := ⟨rfl, rfl, rfl, by decide +kernel, rfl, by decide +kernel, by decide +kernel⟩
theorem ok_grown {f : Addr} {fd : FuncData} (F : Fun K "_law_grown" "_law_grown" s_grown f fd) (T : Txt2 K mg) : FnOk P w K mg base CX0 1 f fd ["rows", "at", "more"] (spD K RGrown) := by
  refine dfn F sc_grown (fun ds out h => ?_) (fun ds out h cdv A outer s H E hr => ?_)
  · obtain ⟨_, _, _, _, rfl, _, _, rfl⟩ := h; exact ⟨rfl, nofun⟩
  · obtain ⟨rs, i, r, m, rfl, hi, hl, rfl⟩ := h
    refine dss_st (ds_set 3 sc_grown.nd (de_ixL (de_var 0) (de_var 1) (atI_nat (by rw [List.getElem?_map, hi]; rfl))) ?_)
    have el : ((rs.map rowD).length : Nat) = rs.length := List.length_map ..
    refine dss_st (ds_retNew (df_cat (df_cat (df_slL (de_var 0) do_none (do_some (de_var 1))).de (df_lst (da_cons (de_tup (da_cons (de_ixT (de_var 3) de_int) (da_cons (de_ixT (de_var 3) de_int) (da_cons (de_add (de_ixT (de_var 3) de_int (d := .int r.n)) (de_var 2)) da_nil)))) da_nil)).de ?_).de
      (df_slL (de_var 0) (do_some (de_add (de_var 1) de_int)) do_none).de ?_) ?_)
    · rw [cutD_take, List.length_take, sizeLine_eq]; simp; omega
    · rw [cutD_take, show ((i : Int) + 1) = ((i + 1 : Nat) : Int) by omega, cutD_drop, List.length_append, List.length_take, List.length_drop, sizeLine_eq]; simp; omega
    · show MO.lst _ = MO.lst _
      rw [cutD_take, show ((i : Int) + 1) = ((i + 1 : Nat) : Int) by omega, cutD_drop]
      unfold grownL
      rw [List.map_append, List.map_append, List.map_take, List.map_drop]
      rfl
end
end K47
set_option Elab.async false
set_option linter.all false
set_option maxRecDepth 100000
set_option maxHeartbeats 4000000
namespace K47
open PySem PySem.Spec PyProof.Rows L2 DL
local macro_rules | `(tactic| walk_at "le") => `(tactic| (first | exact trivial | exact ⟨.inl rfl, by walk_at "le"⟩ | exact ⟨.inr ⟨rfl, rfl⟩, by walk_at "le"⟩))
abbrev s_check : Stmt := top 13
abbrev s_sums : Stmt := top 14
abbrev s_break : Stmt := top 15
theorem foldl_max (r : List Int) : ∀ a : Int, a ≤ r.foldl max a ∧ (∀ x ∈ r, x ≤ r.foldl max a) ∧ ∀ B, a ≤ B → (∀ x ∈ r, x ≤ B) → r.foldl max a ≤ B := by
  induction r with
  | nil => intro a; exact ⟨Int.le_refl _, (by intro x h; cases h), fun B h _ => h⟩
  | cons y r ih =>
    intro a
    obtain ⟨h1, h2, h3⟩ := ih (max a y)
    refine ⟨Int.le_trans (Int.le_max_left _ _) h1, fun x hx => ?_, fun B hB h => ?_⟩
    · rcases List.mem_cons.mp hx with rfl | hx
      · exact Int.le_trans (Int.le_max_right _ _) h1
      · exact h2 x hx
    · exact h3 B (Int.max_le.mpr ⟨hB, h y (by simp)⟩) fun x hx => h x (by simp [hx])
theorem maxDf_mem {ns : List Int} {d x : Int} (h : x ∈ ns) : x ≤ maxDf ns d := by
  cases ns with
  | nil => cases h
  | cons n r =>
    obtain ⟨h1, h2, _⟩ := foldl_max r n
    rcases List.mem_cons.mp h with rfl | h
    · exact h1
    · exact h2 x h
theorem maxDf_le {ns : List Int} {d B : Int} (h : ∀ x ∈ ns, x ≤ B) (hd : d ≤ B) : maxDf ns d ≤ B := by
  cases ns with
  | nil => exact hd
  | cons n r => exact (foldl_max r n).2.2 B (h n (by simp)) fun x hx => h x (by simp [hx])
theorem maxDf_ge {ns : List Int} {d : Int} (h : ∀ x ∈ ns, d ≤ x) : d ≤ maxDf ns d := by
  cases ns with
  | nil => exact Int.le_refl _
  | cons n r => exact Int.le_trans (h n (by simp)) (foldl_max r n).1
theorem range_set {g g' : Nat → D} {L t : Nat} (h : ∀ i, i ≠ t → g i = g' i) : ((List.range L).map g).set t (g' t) = (List.range L).map g' := by
  apply List.ext_getElem?
  intro i
  rw [List.getElem?_set, List.getElem?_map, List.getElem?_map]
  by_cases hi : i < L
  · rw [List.getElem?_range hi]
    by_cases e : t = i
    · subst e; simp [hi]
    · simp [e, h i (fun q => e q.symm)]
  · rw [List.getElem?_eq_none (by simpa using hi)]
    by_cases e : t = i
    · subst e; simp [hi]
    · simp [e]
theorem atI_last {α : Type} (xs : List α) (y : α) : atI (xs ++ [y]) (-1) = some y := by
  unfold atI ixN
  rw [if_neg (by decide), if_pos (by rw [List.length_append]; simp; omega)]
  show (xs ++ [y])[((-1 : Int) + ((xs ++ [y]).length : Int)).toNat]? = some y
  rw [show ((-1 : Int) + ((xs ++ [y]).length : Int)).toNat = xs.length by rw [List.length_append]; simp; omega]
  simp
theorem rep_flat (d : D) : ∀ n, (List.replicate n [d]).flatten = (List.range n).map fun _ => d
  | 0 => rfl
  | n + 1 => by rw [List.replicate_succ, List.flatten_cons, rep_flat d n, List.range_succ_eq_map, List.map_cons, List.map_map]; rfl
section
variable {P : Program} {w : World} {K : PySem.W.Frag} {mg : Str → Option Value} {base : Heap} {CB : Addr} {bm : List Value}
theorem sc_check : FnScope ["burst", "rate"] ["burst", "rate"] (defScope s_check) := ⟨rfl, rfl, rfl, by decide +kernel, rfl, by decide +kernel, by decide +kernel⟩
def okB (burst rn rd : Int) : Bool := !(!(decide (1 ≤ burst) && decide (burst ≤ 20)) || (decide (rn < 0) || decide (20 < rd)))
def RCheck (CB : Addr) (ds : List D) (out : Out) : Prop := ∃ burst rn rd : Int, ds = [.int burst, rateD rn rd] ∧ out = if okB burst rn rd = true then .val .non else .exc CB none
/-- what is known of the class and the two bounds -/
structure TxtB (K : PySem.W.Frag) (mg : Str → Option Value) (CB : Addr) (bm : List Value) : Prop where
  F : ExcBaseFacts "ValueError" "ValueError.__new__" "ValueError.__init__" bm
  E : Exc0 K CB bm
  g : mg "BadNumber" = some (.ref CB)
  mb : ∃ u, mg "MOST_BURST" = some u ∧ RelV (.int 20) u
  mp : ∃ u, mg "MOST_PARTS" = some u ∧ RelV (.int 20) u
theorem ok_check {f : Addr} {fd : FuncData} (F : Fun K "check_rate" "check_rate" s_check f fd) (T : TxtB K mg CB bm) : FnOk P w K mg base (L2N.CX P w) 1 f fd ["burst", "rate"] (spD K (RCheck CB)) := by
  obtain ⟨u1, m1, r1⟩ := T.mb
  obtain ⟨u2, m2, r2⟩ := T.mp
  refine dfnX F sc_check (fun ds out h => ?_) (fun ds out h cdv A outer s H E hr => ?_)
  · obtain ⟨_, _, _, rfl, _⟩ := h; rfl
  · obtain ⟨burst, rn, rd, rfl, rfl⟩ := h
    refine dss_st (ds_if (dw_or (dt_not (dt_chain c_le c_le de_int (de_var 0) (de_glob (by rfl) m1 r1 (fun _ => .int 20)))) (fun _ => dw_or (dt_cmp c_lt (de_ixT (de_var 1) de_int (d := .int rn)) de_int) (fun _ => dw_or1 (dt_cmp c_gt (de_ixT (de_var 1) de_int (d := .int rd)) (de_glob (by rfl) m2 r2 (fun _ => .int 20)))))).dt (fun hz => ?_) (fun hz => ?_))
    · have e : okB burst rn rd = false := by unfold okB; rw [hz]; rfl
      rw [e]
      exact dss_st (ds_raise rfl (dmk_own0 T.F T.E T.g) ⟨rfl, rfl⟩)
    · have e : okB burst rn rd = true := by unfold okB; rw [hz]; rfl
      rw [e]
      exact dss_nil (dss_nil rfl)
theorem sc_sums : FnScope ["comings", "task", "last", "row", "came", "tick", "name", "jobs", "sums"] ["comings", "task"] (defScope s_sums) := ⟨rfl, rfl, rfl, by decide +kernel, rfl, by decide +kernel, by decide +kernel⟩
def sumsD (rs : List Row) (task : Str) (L : Nat) : List D := (List.range (L + 1)).map fun b => .int (cnt rs task 0 b)
theorem ok_sums {f : Addr} {fd : FuncData} (F : Fun K "sums_of" "sums_of" s_sums f fd) (T : Txt2 K mg) (rs : List Row) (task : Str) (ht : ∀ r ∈ rs, r.t ≤ 400) (hlen : rs.length ≤ 100) :
    FnOk P w K mg base CX0 1 f fd ["comings", "task"] (spN K (fun ds => ds = [rowsD rs, .str task]) (fun _ out => ∃ L : Nat, out = .new (.lst (sumsD rs task L)) ∧ L ≤ 401 ∧ ∀ r ∈ rs, r.s = task → r.t < L)) := by
  refine dfnN F sc_sums (fun ds h => ?_) (fun ds h cdv A outer s H E hr => ?_)
  · subst h; rfl
  · subst h
    obtain ⟨nsL, hns⟩ : ∃ nsL, nsL = (ownL rs task).map fun r => (r.t : Int) := ⟨_, rfl⟩
    have hmem : ∀ x ∈ nsL, 0 ≤ x ∧ x ≤ 400 := by
      intro x hx
      subst hns
      obtain ⟨r, hr', rfl⟩ := List.mem_map.mp hx
      have := ht r (own_mem.mp hr').1
      omega
    have b1 := maxDf_ge (ns := nsL) (d := -1) fun x hx => by have := hmem x hx; omega
    have b2 := maxDf_le (ns := nsL) (d := -1) (B := 400) (fun x hx => (hmem x hx).2) (by decide)
    have b3 : ∀ r ∈ rs, r.s = task → (r.t : Int) ≤ maxDf nsL (-1) := fun r h1 h2 => maxDf_mem (by rw [hns]; exact List.mem_map.mpr ⟨r, own_mem.mpr ⟨h1, h2⟩, rfl⟩)
    refine dss_st (ds_set 2 sc_sums.nd (de_maxD (ns := nsL) rfl (roomU0 hr (by decide)) T.max
      ((df_lc1 3 (items := rs) (f := rowD) (fun r => decide (r.s = task)) (fun r => .int (r.t : Int)) rfl sc_sums.nd (di_list (de_var 0)) rfl (by rw [sizeLine_eq]; omega)
        (fun r hr' s' H' C cl fp => ⟨dts_one (dt_cmp c_eqS (de_ixT (de_var 3) de_int (d := .str r.s)) (de_var 1)), fun _ => de_ixT (de_var 3) de_int⟩)).de.eq (by
          show D.lst _ = D.lst _
          rw [hns, List.map_map]; rfl)) (de_neg de_int)) ?_)
    generalize hM : maxDf nsL (-1) = M at b1 b2 b3
    obtain ⟨L, hL⟩ := Int.eq_ofNat_of_zero_le (show 0 ≤ M + 1 by omega)
    have hL' : M + 1 = (L : Int) := hL
    refine dss_st (ds_own 4 sc_sums.nd ((df_rep (df_lst (da_cons de_int da_nil)) ((de_add (de_var 2) de_int).eq (d' := .int (L : Int)) (congrArg D.int hL')) (by omega) (by omega) (by rw [sizeLine_eq]; simp; omega)).eq (m' := .lst ((List.range L).map fun i => .int (cnt (rs.take 0) task i (i + 1)))) (by
      show MO.lst _ = MO.lst _
      rw [rep_flat, Int.toNat_natCast]; rfl)) ?_)
    refine dss_st (ds_for (items := rs.map rowD) (fun k ρ => ρ = [.dat (rowsD rs), .dat (.str task), .dat (.int M), .emp, .own (.lst ((List.range L).map fun i => .int (cnt (rs.take k) task i (i + 1)))), .emp, .emp, .emp, .emp])
      PassesOwn.never rfl (di_list (de_var 0)) (Up.intro rfl (by walk_at "le")) ?_ ?_)
    · rintro k x ρ' hx rfl
      obtain ⟨r, hr', rfl⟩ : ∃ r, rs[k]? = some r ∧ rowD r = x := by
        rw [List.getElem?_map] at hx
        cases h : rs[k]? with
        | none => rw [h] at hx; cases hx
        | some r => rw [h] at hx; exact ⟨r, rfl, by injection hx⟩
      refine ⟨_, _, dg_tup rfl (dgs_cons (dg_name 5 sc_sums.nd) (dgs_cons (dg_name 6 sc_sums.nd) (dgs_cons (dg_name 7 sc_sums.nd) dgs_nil))), ?_⟩
      have htake : ∀ i, cnt (rs.take (k + 1)) task i (i + 1) = cnt (rs.take k) task i (i + 1) + cnt [r] task i (i + 1) := by
        intro i
        obtain ⟨hk, e⟩ := List.getElem?_eq_some_iff.mp hr'
        rw [List.take_succ, hr', cnt_app]; rfl
      refine dss_st (ds_if (dt_cmp c_eqS (de_var 6) (de_var 1)) (fun hz => ?_) (fun hz => ?_))
      · have hz : r.s = task := of_decide_eq_true hz
        have htL : r.t < L := by have := b3 r (List.mem_of_getElem? hr') hz; omega
        refine dss_st (ds_setix 4 (j := r.t) (ds := (List.range L).map fun i => .int (cnt (rs.take k) task i (i + 1))) (de_add (de_ixO 4 (ds := (List.range L).map fun i => .int (cnt (rs.take k) task i (i + 1))) (de_var 5) (d := .int (cnt (rs.take k) task r.t (r.t + 1))) (atI_nat (by rw [List.getElem?_map, List.getElem?_range htL]; rfl))) (de_var 7)) (de_var 5) (by
          unfold ixN
          rw [if_pos (by omega), if_pos (by rw [List.length_map, List.length_range]; omega)]; rfl) ?_)
        refine dss_nil (dss_nil (Up.intro rfl ?_))
        have e : ((List.range L).map fun i => D.int (cnt (rs.take k) task i (i + 1))).set r.t (.int (cnt (rs.take k) task r.t (r.t + 1) + r.n)) = (List.range L).map fun i => .int (cnt (rs.take (k + 1)) task i (i + 1)) := by
          have := range_set (L := L) (t := r.t) (g := fun i => D.int (cnt (rs.take k) task i (i + 1))) (g' := fun i => D.int (cnt (rs.take (k + 1)) task i (i + 1))) (fun i hi => by
            simp only [htake, cnt]
            rw [if_neg (fun q => hi (by omega))]; simp)
          rw [← this, htake]
          simp only [cnt]
          rw [if_pos ⟨hz, Nat.le_refl _, Nat.lt_succ_self _⟩, Int.add_zero]
        rw [← e]; walk_at "le"
      · have hz : ¬ r.s = task := of_decide_eq_false hz
        refine dss_nil (dss_nil (Up.intro rfl ?_))
        have e : ((List.range L).map fun i => D.int (cnt (rs.take k) task i (i + 1))) = (List.range L).map fun i => .int (cnt (rs.take (k + 1)) task i (i + 1)) := by
          refine List.map_congr_left fun i _ => ?_
          rw [htake]; simp only [cnt]
          rw [if_neg (fun q => hz q.1)]; simp
        rw [← e]; walk_at "le"
    · rintro ρ' rfl
      rw [List.length_map, List.take_length]
      refine dss_st (ds_own 8 sc_sums.nd ((df_lst (da_cons de_int da_nil)).eq (m' := .lst (sumsD rs task 0)) (by
        show MO.lst _ = MO.lst _
        unfold sumsD
        show MO.lst [D.int 0] = MO.lst [D.int (cnt rs task 0 0)]
        rw [cnt_none rs task (lo := 0) (hi := 0) (fun _ _ _ _ h => by omega)])) ?_)
      refine dss_freeze 4 (m := .lst ((List.range L).map fun i => .int (cnt rs task i (i + 1)))) ?_
      refine dss_st (ds_each 7 (items := (List.range L).map fun i => .int (cnt rs task i (i + 1))) (fun k ρ => k ≤ L ∧ ρ = [.dat (rowsD rs), .dat (.str task), .dat (.int M), .emp, .dat (.lst ((List.range L).map fun i => .int (cnt rs task i (i + 1)))), .emp, .emp, .emp, .own (.lst (sumsD rs task k))])
        sc_sums.nd PassesOwn.never rfl (de_var 4) (Up.intro ⟨Nat.zero_le _, rfl⟩ (by walk_at "le")) ?_ ?_)
      · rintro k y ρ' hy ⟨hk, rfl⟩
        refine ⟨(by intro m h; cases h), ?_⟩
        have hkL : k < L := by have := (List.getElem?_eq_some_iff.mp hy).1; simpa using this
        obtain rfl : D.int (cnt rs task k (k + 1)) = y := by
          rw [List.getElem?_map, List.getElem?_range hkL] at hy; injection hy
        have hs : sumsD rs task k = ((List.range k).map fun b => .int (cnt rs task 0 b)) ++ [.int (cnt rs task 0 k)] := by unfold sumsD; rw [List.range_succ, List.map_append]; rfl
        have hs2 : sumsD rs task (k + 1) = sumsD rs task k ++ [.int (cnt rs task 0 k + cnt rs task k (k + 1))] := by
          unfold sumsD; rw [List.range_succ (n := k + 1), List.map_append, ← cnt_split rs task (Nat.zero_le k) (Nat.le_succ k)]; rfl
        refine dss_st (ds_append 8 (ds := sumsD rs task k) (de_add (de_ixO 8 (ds := sumsD rs task k) (de_neg de_int) (d := .int (cnt rs task 0 k)) (by rw [hs]; exact atI_last _ _)) (de_var 7)) (by unfold sumsD; rw [List.length_map, List.length_range, sizeLine_eq]; omega) ?_)
        refine dss_nil (Up.intro ⟨hkL, rfl⟩ (by rw [hs2]; walk_at "le"))
      · rintro ρ' ⟨_, rfl⟩
        rw [List.length_map, List.length_range]
        exact dss_st (ds_retOwn 8 (m := .lst (sumsD rs task L)) ⟨L, rfl, by omega, fun r h1 h2 => by have := b3 r h1 h2; omega⟩)
end
end K47
set_option Elab.async false
set_option linter.all false
set_option maxRecDepth 100000
set_option maxHeartbeats 4000000
namespace K47
open PySem PySem.Spec PyProof.Rows L2 DL
local macro_rules | `(tactic| walk_at "le") => `(tactic| (first | exact trivial | exact ⟨.inl rfl, by walk_at "le"⟩ | exact ⟨.inr ⟨rfl, rfl⟩, by walk_at "le"⟩))
/-- rows that may be asked about -/
structure Fine (rs : List Row) : Prop where
  ps : ∀ r ∈ rs, 1 ≤ r.n
  tk : ∀ r ∈ rs, r.t ≤ 400
  ln : rs.length ≤ 100
def RBreak (CB : Addr) (ds : List D) (out : Out) : Prop := ∃ (rs : List Row) (task : Str) (burst rn rd : Int), ds = [rowsD rs, .str task, .int burst, rateD rn rd] ∧ Fine rs ∧
  ((okB burst rn rd = false ∧ out = .exc CB none) ∨ (okB burst rn rd = true ∧ rn ≤ 1000 ∧ 1 ≤ rd ∧ ∃ o, IsFirst rs task burst rn rd o ∧ out = .val (optD o)))
section
variable {P : Program} {w : World} {K : PySem.W.Frag} {mg : Str → Option Value} {base : Heap} {CB : Addr} {bm : List Value}
theorem sc_break : FnScope ["comings", "task", "burst", "rate", "sums", "behind", "first", "more"] ["comings", "task", "burst", "rate"] (defScope s_break) := ⟨rfl, rfl, rfl, by decide +kernel, rfl, by decide +kernel, by decide +kernel⟩
structure TxtK (P : Program) (w : World) (K : PySem.W.Frag) (mg : Str → Option Value) (base : Heap) (CB f1 f2 : Addr) (fd1 fd2 : FuncData) : Prop where
  G1 : FnOk P w K mg base (L2N.CX P w) 1 f1 fd1 ["burst", "rate"] (spD K (RCheck CB))
  b1 : Binds K fd1 ["burst", "rate"] []
  m1 : mg "check_rate" = some (.ref f1)
  k1 : PySem.W.keepIn K (.ref f1) = true
  G2 : ∀ (rs : List Row) (task : Str), (∀ r ∈ rs, r.t ≤ 400) → rs.length ≤ 100 → FnOk P w K mg base CX0 1 f2 fd2 ["comings", "task"] (spN K (fun ds => ds = [rowsD rs, .str task]) (fun _ out => ∃ L : Nat, out = .new (.lst (sumsD rs task L)) ∧ L ≤ 401 ∧ ∀ r ∈ rs, r.s = task → r.t < L))
  b2 : Binds K fd2 ["comings", "task"] []
  m2 : mg "sums_of" = some (.ref f2)
  k2 : PySem.W.keepIn K (.ref f2) = true
theorem okB_iff {burst rn rd : Int} (h : okB burst rn rd = true) : 1 ≤ burst ∧ burst ≤ 20 ∧ 0 ≤ rn ∧ rd ≤ 20 := by
  unfold okB at h
  simp at h
  omega
theorem ok_break {f f1 f2 : Addr} {fd fd1 fd2 : FuncData} (F : Fun K "first_break" "first_break" s_break f fd) (T : Txt2 K mg) (Tk : TxtK P w K mg base CB f1 f2 fd1 fd2) :
    FnOk P w K mg base (L2N.CX P w) 2 f fd ["comings", "task", "burst", "rate"] (spD K (RBreak CB)) := by
  refine dfnX F sc_break (fun ds out h => ?_) (fun ds out h cdv A outer s H E hr => ?_)
  · obtain ⟨_, _, _, _, _, rfl, _⟩ := h; rfl
  · obtain ⟨rs, task, burst, rn, rd, rfl, Fi, h⟩ := h
    rcases h with ⟨hb, rfl⟩ | ⟨hb, hrn, hrd, o, ho, rfl⟩
    · exact dss_st (ds_exprX (dx_call Tk.G1 hr Tk.m1 Tk.k1 Tk.b1 (da_cons (de_var 2) (da_cons (de_var 3) da_nil)) ⟨burst, rn, rd, rfl, by rw [hb]; rfl⟩) ⟨rfl, rfl⟩)
    · obtain ⟨hb1, hb2, hrn0, hrd2⟩ := okB_iff hb
      refine dss_st (ds_expr (de_call Tk.G1 hr Tk.m1 Tk.k1 Tk.b1 passX (da_cons (de_var 2) (da_cons (de_var 3) da_nil)) (d := .non) ⟨burst, rn, rd, rfl, by rw [hb]; rfl⟩) ?_)
      refine dss_st (ds_ownN 4 (M := fun m => ∃ L : Nat, m = .lst (sumsD rs task L) ∧ L ≤ 401 ∧ ∀ r ∈ rs, r.s = task → r.t < L) sc_break.nd
        (df_callN (Tk.G2 rs task Fi.tk Fi.ln) hr Tk.m2 Tk.k2 Tk.b2 pass0 (da_cons (de_var 0) (da_cons (de_var 1) da_nil)) rfl (fun out h => by
          obtain ⟨L, rfl, h1, h2⟩ := h
          exact ⟨_, rfl, L, rfl, h1, h2⟩)) ?_)
      rintro m ⟨L, rfl, hL, hLt⟩
      refine dss_freeze 4 ?_
      have hs : ∀ b : Nat, b ≤ L → atI (sumsD rs task L) (b : Int) = some (.int (cnt rs task 0 b)) := fun b hb => atI_nat (by
        unfold sumsD; rw [List.getElem?_map, List.getElem?_range (by omega)]; rfl)
      have hlen : (sumsD rs task L).length = L + 1 := by unfold sumsD; rw [List.length_map, List.length_range]
      refine dss_st (ds_range2 5 L (fun k ρ => (∀ b, b < k + 1 → Hit rs task b → ∀ f' < b, ¬ Bad rs task burst rn rd f' b) ∧
          ρ = [.dat (rowsD rs), .dat (.str task), .dat (.int burst), .dat (rateD rn rd), .dat (.lst (sumsD rs task L)), .emp, .emp, .emp])
        sc_break.nd T.range (passes_of rfl) rfl de_int (de_lenL T.len (de_var 4)) (by rw [hlen]; omega) ⟨by decide, by decide, by omega, by rw [hlen]; omega⟩ (Up.intro ⟨?_, rfl⟩ (by walk_at "le")) ?_ ?_)
      · intro b hb' hh f' hf'
        obtain ⟨r, _, _, h3⟩ := hh
        omega
      · rintro k ρ' hk ⟨hall, rfl⟩
        refine ⟨(by intro m h; cases h), ?_⟩
        rw [show ((1 : Int) + (k : Int)) = ((k + 1 : Nat) : Int) by omega]
        have hend : Hit rs task (k + 1) ↔ 0 < cnt rs task k (k + 1) := by
          rw [cnt_pos rs task k (k + 1) Fi.ps]
          exact ⟨fun ⟨r, h1, h2, h3⟩ => ⟨r, h1, h2, by omega, by omega⟩, fun ⟨r, h1, h2, h3, h4⟩ => ⟨r, h1, h2, by omega⟩⟩
        have hsp : cnt rs task 0 (k + 1) = cnt rs task 0 k + cnt rs task k (k + 1) := cnt_split rs task (Nat.zero_le k) (Nat.le_succ k)
        refine dss_st (ds_if (dt_cmp c_gt (de_ixL (de_var 4) (de_var 5) (hs (k + 1) (by omega))) (de_ixL (de_var 4) ((de_sub (de_var 5) de_int).eq (d' := .int (k : Int)) (congrArg D.int (by omega))) (hs k (by omega)))) (fun hz => ?_) (fun hz => ?_))
        · have hz : cnt rs task 0 k < cnt rs task 0 (k + 1) := of_decide_eq_true hz
          have hh : Hit rs task (k + 1) := hend.mpr (by have : cnt rs task 0 (k + 1) = _ := hsp; omega)
          refine dss_st (ds_range1 6 (k + 1) (fun f' ρ => (∀ f2 < f', ¬ Bad rs task burst rn rd f2 (k + 1)) ∧
              ρ = [.dat (rowsD rs), .dat (.str task), .dat (.int burst), .dat (rateD rn rd), .dat (.lst (sumsD rs task L)), .dat (.int ((k + 1 : Nat) : Int)), .emp, .emp])
            sc_break.nd T.range (passes_of rfl) rfl (de_var 5) rfl (by omega) (Up.intro ⟨(by intro f2 h; omega), rfl⟩ (by walk_at "le")) ?_ ?_)
          · rintro f' ρ' hf' ⟨hbad, rfl⟩
            refine ⟨(by intro m h; cases h), ?_⟩
            have hc : cnt rs task 0 (k + 1) - cnt rs task 0 f' - burst = cnt rs task f' (k + 1) - burst := by
              have := cnt_split rs task (Nat.zero_le f') (show f' ≤ k + 1 by omega)
              omega
            refine dss_st (ds_set 7 sc_break.nd ((de_sub (de_sub (de_ixL (de_var 4) (de_var 5) (hs (k + 1) (by omega))) (de_ixL (de_var 4) (de_var 6) (hs f' (by omega)))) (de_var 2)).eq (congrArg D.int hc)) ?_)
            have hval : ∀ z, decide (rn * (((k + 1 : Nat) : Int) - (f' : Int)) < (cnt rs task f' (k + 1) - burst) * rd) = z → (z = true ↔ Bad rs task burst rn rd f' (k + 1)) := by
              rintro z rfl; simp [Bad]
            refine dss_st (ds_if (dt_cmp c_gt (de_mul (de_var 7) (de_ixT (de_var 3) de_int (d := .int rd)) (.inr (by omega))) (de_mul (de_ixT (de_var 3) de_int (d := .int rn)) (de_sub (de_var 5) (de_var 6)) (.inl (by omega)))) (fun hz => ?_) (fun hz => ?_))
            · have hb : Bad rs task burst rn rd f' (k + 1) := (hval _ hz).mp rfl
              have e : o = some (f', k + 1) := ho.uniq ⟨hh, hf', hb, hbad, fun b' hb' => hall b' hb'⟩
              subst e
              exact dss_st (ds_ret (de_tup (da_cons (de_var 6) (da_cons (de_var 5) da_nil))) rfl)
            · have hb : ¬ Bad rs task burst rn rd f' (k + 1) := fun h => absurd ((hval _ hz).mpr h) (by decide)
              refine dss_nil (dss_nil (Up.intro ⟨fun f2 hf2 => ?_, rfl⟩ (by walk_at "le")))
              by_cases h : f2 < f'
              · exact hbad f2 h
              · have : f2 = f' := by omega
                subst this; exact hb
          · rintro ρ' ⟨hbad, rfl⟩
            refine dss_nil (dss_nil (Up.intro ⟨fun b hb' hh2 f2 hf2 => ?_, rfl⟩ (by walk_at "le")))
            by_cases h : b < k + 1
            · exact hall b h hh2 f2 hf2
            · have : b = k + 1 := by omega
              subst this; exact hbad f2 hf2
        · have hz : ¬ cnt rs task 0 k < cnt rs task 0 (k + 1) := of_decide_eq_false hz
          refine dss_nil (dss_nil (Up.intro ⟨fun b hb' hh2 f2 hf2 => ?_, rfl⟩ (by walk_at "le")))
          by_cases h : b < k + 1
          · exact hall b h hh2 f2 hf2
          · have : b = k + 1 := by omega
            subst this
            have h1 := hend.mp hh2
            have : cnt rs task 0 (k + 1) = _ := hsp
            omega
      · rintro ρ' ⟨hall, rfl⟩
        have e : o = none := ho.uniq (fun b f2 hh hf2 => by
          obtain ⟨r, h1, h2, h3⟩ := id hh
          have := hLt r h1 h2
          exact hall b (by omega) hh f2 hf2)
        subst e
        exact dss_st (ds_ret de_non rfl)
end
end K47
set_option Elab.async false
set_option linter.all false
set_option maxRecDepth 100000
set_option maxHeartbeats 4000000
namespace K47
open PySem PySem.Spec PyProof.Rows L2 DL
local macro_rules | `(tactic| walk_at "le") => `(tactic| (first | exact trivial | exact ⟨.inl rfl, by walk_at "le"⟩ | exact ⟨.inr ⟨rfl, rfl⟩, by walk_at "le"⟩))
section
variable {P : Program} {w : World} {K : PySem.W.Frag} {mg : Str → Option Value} {base : Heap} {word : Str} {C : Addr}
def ROnlyP (a : Addr) (word : Str) (ds : List D) (out : Out) : Prop := ds = [.opq a, .str word] ∧ out = .val (.bl true)
theorem de_kindP {X : Cx} {ρ : List Sl} {ad : Addr} (T : TxtE X.K X.mg word C) (hp : Pin X C ad) {x : Str} (hx : x ∈ kindNames) {p p' pos : Pos} {a : Expr} (h : DE X ρ a (.opq ad)) (hi : Gl X "isinstance" := by rfl) (hg : Gl X x := by rfl) (hd : (x == ("__debug__" : Str)) = false := by decide)
    (hs : starEach [a, .Name x p'] X.env = [(false, eval a X.env), (false, eval (.Name x p') X.env)] := by rfl) :
    DE X ρ (.Call (.Name "isinstance" p) [a, .Name x p'] [] pos) (.bl (decide (x = word))) := by
  obtain ⟨E, e1, e2⟩ := T.cls x hx
  exact de_isP T.exc hp T.isi h (de_cls e1 hg hd) (.inr ⟨E, rfl, rfl⟩) e2 hi hs
theorem ok_onlyP {f a : Addr} {oe : Obj} {fd : FuncData} (F : Fun K "_law_only" "_law_only" s_only f fd) (T : TxtE K mg word C) (hz : Zc (.ref C) none oe) (hv : ∃ vs, oe.data = .fields vs) : FnP P w K mg base 1 f fd ["e", "word"] (spD K (ROnlyP a word)) (a, oe) := by
  refine fnP F sc_only (fun ds out h => ?_) (fun ds out h cdv A outer s H E hot => ?_)
  · obtain ⟨rfl, rfl⟩ := h; exact ⟨rfl, nofun⟩
  · obtain ⟨rfl, rfl⟩ := h
    have hp : Pin (L2H.cxH CX0 P w K mg base ["e", "word", "kinds", "names", "k"] "_law_only" (defScope s_only) f cdv A outer s H E (a, oe)) C a := ⟨oe, List.mem_cons_self, hz, hv⟩
    refine dss_st (ds_set 2 sc_only.nd (df_lst (da_cons (de_kindP (x := "BadCode") T hp (by decide) (de_var 0)) (da_cons (de_kindP (x := "BadName") T hp (by decide) (de_var 0)) (da_cons (de_kindP (x := "BadNumber") T hp (by decide) (de_var 0)) (da_cons (de_kindP (x := "BadText") T hp (by decide) (de_var 0)) da_nil))))).de ?_)
    refine dss_st (ds_set 2 sc_only.nd (df_cat (de_var 2) (df_lst (da_cons (de_kindP (x := "NoRoom") T hp (by decide) (de_var 0)) (da_cons (de_kindP (x := "NotFree") T hp (by decide) (de_var 0)) (da_cons (de_kindP (x := "StaleKey") T hp (by decide) (de_var 0)) (da_cons (de_kindP (x := "TooMany") T hp (by decide) (de_var 0)) da_nil))))).de (by show 4 + 4 ≤ sizeLine; decide)).de ?_)
    refine dss_st (ds_set 3 sc_only.nd (df_lst (da_cons de_str (da_cons de_str (da_cons de_str (da_cons de_str (da_cons de_str (da_cons de_str (da_cons de_str (da_cons de_str da_nil))))))))).de ?_)
    refine dss_st (ds_range1H 4 8 (fun k ρ => ρ = [.dat (.opq a), .dat (.str word), .dat (.lst (kindNames.map fun x => .bl (decide (x = word)))), .dat (.lst (kindNames.map .str)), .emp])
      sc_only.nd T.range (passes_of rfl) ⟨(a, oe), hot, List.mem_cons_self⟩ de_int (by decide) (Up.intro rfl (by walk_at "le")) ?_ ?_)
    · rintro k ρ' hk rfl
      refine ⟨(by intro m h; cases h), ?_⟩
      obtain ⟨x, hx⟩ : ∃ x, kindNames[k]? = some x := ⟨_, List.getElem?_eq_getElem hk⟩
      refine dss_st (ds_ifF ((dt_cmp c_neB (de_ixL (de_var 2) (de_var 4) (atI_nat (by rw [List.getElem?_map, hx]; rfl))) (de_cmp c_eqS (de_ixL (de_var 3) (de_var 4) (atI_nat (by rw [List.getElem?_map, hx]; rfl))) (de_var 1))).eq (by simp)) ?_)
      exact dss_nil (dss_nil (Up.intro rfl (by walk_at "le")))
    · rintro ρ' rfl
      obtain ⟨E', e1, e2⟩ := T.share
      refine dss_st (ds_ret (de_and (de_isP T.exc hp T.isi (de_var 0) (de_cls e1 (by rfl) (by decide)) (.inr ⟨E', rfl, rfl⟩) e2) (fun _ => de_one (de_isP T.exc hp T.isi (de_var 0) (de_bltn (by rfl) T.ve (by decide +kernel)) (.inl ⟨"ValueError", rfl, rfl⟩) T.val))) ?_)
      rfl
end
end K47
set_option Elab.async false
set_option linter.all false
set_option maxRecDepth 100000
set_option maxHeartbeats 4000000
namespace K47
open PySem PySem.Spec PyProof.Rows L2 DL
local macro_rules | `(tactic| walk_at "le") => `(tactic| (first | exact trivial | exact ⟨.inl rfl, by walk_at "le"⟩ | exact ⟨.inr ⟨rfl, rfl⟩, by walk_at "le"⟩))
abbrev s_asked : Stmt := top 27
abbrev s_refuses : Stmt := top 28
abbrev s_again : Stmt := top 31
theorem rowsD_ok (rs : List Row) : (rowsD rs).ok = true := by
  show D.oks (rs.map rowD) = true
  induction rs with
  | nil => rfl
  | cons r rs ih => simp only [List.map_cons, D.oks, ih, Bool.and_true]; rfl
theorem rowsD_depth (rs : List Row) : (rowsD rs).py.depth ≤ 2 := by
  have : PyData.depthAll (D.pys (rs.map rowD)) ≤ 1 := by
    induction rs with
    | nil => exact Nat.zero_le _
    | cons r rs ih =>
      simp only [List.map_cons, D.pys, PyData.depthAll]
      have h : (rowD r).py.depth ≤ 1 := by
        simp only [rowD, D.py, D.pys, PyData.depth, PyData.depthAll]; omega
      omega
  show (PyData.list (D.pys (rs.map rowD))).depth ≤ 2
  simp only [PyData.depth]
  omega
theorem c_eqRows {X : Cx} {rs : List Row} (hu : X.A.units + 2 < cLine) : CmpD X .Eq (rowsD rs) (rowsD rs) true := by
  have h := c_eqP (X := X) (da := rowsD rs) (db := rowsD rs) (rowsD_ok rs) (rowsD_ok rs) (by have := rowsD_depth rs; have := Nat.min_le_left (rowsD rs).py.depth (rowsD rs).py.depth; omega)
  rw [PySem.SeqAt.eqv_refl_plain _ (D.py_plain _ (rowsD_ok rs))] at h
  exact h
theorem optD_ok (o : Option (Nat × Nat)) : (optD o).ok = true := by cases o <;> rfl
theorem optD_same (o : Option (Nat × Nat)) : sameD (optD o) (optD o) = true := by
  cases o with
  | none => rfl
  | some p => obtain ⟨f, b⟩ := p; simp [optD, sameD, sameDs]
theorem optD_dep (o : Option (Nat × Nat)) : (optD o).dep ≤ 1 := by cases o <;> simp [optD, D.dep, D.deps]
theorem optD_flt (o : Option (Nat × Nat)) : (optD o).flt = true := by cases o <;> rfl
section
variable {P : Program} {w : World} {K : PySem.W.Frag} {mg : Str → Option Value} {base : Heap} {CB : Addr} {bm : List Value}
structure LawT (P : Program) (w : World) (K : PySem.W.Frag) (mg : Str → Option Value) (base : Heap) (CB fB fF fS : Addr) (fdB fdF fdS : FuncData) : Prop where
  GB : FnOk P w K mg base (L2N.CX P w) 2 fB fdB ["comings", "task", "burst", "rate"] (spD K (RBreak CB))
  bB : Binds K fdB ["comings", "task", "burst", "rate"] []
  mB : mg "first_break" = some (.ref fB)
  kB : PySem.W.keepIn K (.ref fB) = true
  GF : FnOk P w K mg base CX0 1 fF fdF ["rows", "task", "burst", "rate"] (spD K RFirst)
  bF : Binds K fdF ["rows", "task", "burst", "rate"] []
  mF : mg "_law_first" = some (.ref fF)
  kF : PySem.W.keepIn K (.ref fF) = true
  GS : ∀ n : Nat, FnOk P w K mg base CX0 (n + 1) fS fdS ["got", "due"] (spD K (RSame n))
  bS : Binds K fdS ["got", "due"] []
  mS : mg "_law_same" = some (.ref fS)
  kS : PySem.W.keepIn K (.ref fS) = true
theorem Good.fine {rs : List Row} {task : Str} (G : Good rs task) : Fine rs := ⟨G.pos, G.tick, G.len⟩
def RAsked (ds : List D) (out : Out) : Prop := ∃ (rs : List Row) (task : Str) (burst rn rd : Int), ds = [rowsD rs, .str task, .int burst, rateD rn rd] ∧ Good rs task ∧ okB burst rn rd = true ∧ rn ≤ 1000 ∧ 1 ≤ rd ∧ out = .val (.bl true)
theorem sc_asked : FnScope ["rows", "task", "burst", "rate", "due", "given"] ["rows", "task", "burst", "rate"] (defScope s_asked) := ⟨rfl, rfl, rfl, by decide +kernel, rfl, by decide +kernel, by decide +kernel⟩
theorem ok_asked {f fB fF fS : Addr} {fd fdB fdF fdS : FuncData} (F : Fun K "_law_asked" "_law_asked" s_asked f fd) (T : Txt2 K mg) (L : LawT P w K mg base CB fB fF fS fdB fdF fdS) :
    FnOk P w K mg base CX0 3 f fd ["rows", "task", "burst", "rate"] (spD K RAsked) := by
  refine dfn F sc_asked (fun ds out h => ?_) (fun ds out h cdv A outer s H E hr => ?_)
  · obtain ⟨_, _, _, _, _, rfl, _, _, _, _, rfl⟩ := h; exact ⟨rfl, nofun⟩
  · obtain ⟨rs, task, burst, rn, rd, rfl, G, hb, hrn, hrd, rfl⟩ := h
    obtain ⟨h1, h2, h3, h4⟩ := okB_iff hb
    obtain ⟨o, ho⟩ := isFirst_ex rs task burst rn rd
    refine dss_st (ds_set 4 sc_asked.nd (de_call L.GF (hr.mono (by decide)) L.mF L.kF L.bF pass0 (da_cons (de_var 0) (da_cons (de_var 1) (da_cons (de_var 2) (da_cons (de_var 3) da_nil)))) (d := optD o) ⟨rs, task, burst, rn, rd, o, rfl, G, h3, by omega, hrd, by omega, ho, rfl⟩) ?_)
    refine dss_st (ds_set 5 sc_asked.nd (df_listOfL T.list (de_var 0)).de ?_)
    refine dss_st (ds_ret (de_and (de_call (L.GS 1) hr L.mS L.kS L.bS pass0 (da_cons (de_call L.GB hr L.mB L.kB L.bB passX (da_cons (de_var 5) (da_cons (de_var 1) (da_cons (de_var 2) (da_cons (de_var 3) da_nil)))) (d := optD o) ⟨rs, task, burst, rn, rd, rfl, G.fine, .inr ⟨hb, hrn, hrd, o, ho, rfl⟩⟩) (da_cons (de_var 4) da_nil)) ⟨optD o, optD o, rfl, optD_ok o, optD_ok o, optD_dep o, rfl⟩)
      (fun _ => de_one (de_cmp (c_eqRows (roomU0 hr (by decide))) (de_var 5) (de_var 0)))) ?_)
    show D.bl _ = D.bl _
    rw [optD_same]; rfl
def RRefuses (ds : List D) (out : Out) : Prop := ∃ (rs : List Row) (task : Str) (burst rn rd : Int), ds = [rowsD rs, .str task, .int burst, rateD rn rd] ∧ Fine rs ∧ okB burst rn rd = false ∧ out = .val (.bl true)
theorem sc_refuses : FnScope ["rows", "task", "burst", "rate", "given", "e"] ["rows", "task", "burst", "rate"] (defScope s_refuses) := ⟨rfl, rfl, rfl, by decide +kernel, rfl, by decide +kernel, by decide +kernel⟩
structure OnlyT (P : Program) (w : World) (K : PySem.W.Frag) (mg : Str → Option Value) (base : Heap) (CB CS fO : Addr) (fdO : FuncData) : Prop where
  GO : ∀ a oe, Zc (.ref CB) none oe → (∃ vs, oe.data = .fields vs) → FnP P w K mg base 1 fO fdO ["e", "word"] (spD K (ROnlyP a "BadNumber")) (a, oe)
  bO : Binds K fdO ["e", "word"] []
  mO : mg "_law_only" = some (.ref fO)
  kO : PySem.W.keepIn K (.ref fO) = true
  gB : mg "BadNumber" = some (.ref CB)
  gS : mg "ShareError" = some (.ref CS)
  ex : PySem.W.exmOne K (.ref CB) (.ref CB) = some true
theorem ok_refuses {f fB fF fS CS fO : Addr} {fd fdB fdF fdS fdO : FuncData} (F : Fun K "_law_refuses" "_law_refuses" s_refuses f fd) (T : Txt2 K mg) (L : LawT P w K mg base CB fB fF fS fdB fdF fdS) (Oy : OnlyT P w K mg base CB CS fO fdO) :
    FnOk P w K mg base CX0 3 f fd ["rows", "task", "burst", "rate"] (spD K RRefuses) := by
  refine dfn F sc_refuses (fun ds out h => ?_) (fun ds out h cdv A outer s H E hr => ?_)
  · obtain ⟨_, _, _, _, _, rfl, _, _, rfl⟩ := h; exact ⟨rfl, nofun⟩
  · obtain ⟨rs, task, burst, rn, rd, rfl, Fi, hb, rfl⟩ := h
    refine dss_st (ds_set 4 sc_refuses.nd (df_listOfL T.list (de_var 0)).de ?_)
    refine dss_st (ds_tryP rfl rfl sc_refuses.nd rfl (HS.as (i := 5) (c := .ref CB) rfl rfl ⟨rfl, by decide, Or.inl Oy.gB⟩ (HS.one (c := .ref CS) ⟨rfl, by decide, Or.inl Oy.gS⟩ HS.nil)) (fun pn xe P => ?_))
    refine dss_st (ds_exprX (dx_call L.GB hr L.mB L.kB L.bB (da_cons (de_var 4) (da_cons (de_var 1) (da_cons (de_var 2) (da_cons (de_var 3) da_nil)))) ⟨rs, task, burst, rn, rd, rfl, Fi, .inl ⟨hb, rfl⟩⟩) ?_)
    refine ⟨true, Oy.ex, fun _ a pn hh => ?_, fun h => nomatch h⟩
    obtain ⟨oe, od, hin, hz, hod, hv, hot⟩ := hh
    obtain rfl := hod rfl
    refine dss_st (ds_ret (de_and (de_callP (Oy.GO a oe hz.zc hv) ⟨(hr.mono (show 1 ≤ 2 by decide)).dp, (hr.mono (show 1 ≤ 2 by decide)).un⟩ hot hin Oy.mO Oy.kO Oy.bO (da_cons (de_var 5) (da_cons de_str da_nil)) ⟨rfl, rfl⟩)
      (fun _ => de_one (de_cmp (c_eqRows (roomU0 hr (by decide))) (de_var 4) (de_var 0)))) rfl)
def RAgain (ds : List D) (out : Out) : Prop := ∃ (rs : List Row) (task : Str) (burst rn rd : Int) (at' : Nat), ds = [rowsD rs, .str task, .int burst, rateD rn rd, .int (at' : Int)] ∧ RowsOk rs 400 ∧ rs.length ≤ 100 ∧ (rs.length = 0 ∨ at' < rs.length) ∧ okB burst rn rd = true ∧ rn ≤ 1000 ∧ 1 ≤ rd ∧ out = .val (.bl true)
theorem sc_again : FnScope ["rows", "task", "burst", "rate", "at", "less", "due", "given", "told"] ["rows", "task", "burst", "rate", "at"] (defScope s_again) := ⟨rfl, rfl, rfl, by decide +kernel, rfl, by decide +kernel, by decide +kernel⟩
theorem erase_ok {rs : List Row} {tick i : Nat} (R : RowsOk rs tick) : RowsOk (rs.eraseIdx i) tick :=
  ⟨R.up.sublist (List.eraseIdx_sublist rs i), fun r hr => R.tk r (List.mem_of_mem_eraseIdx hr), fun r hr => R.ps r (List.mem_of_mem_eraseIdx hr)⟩
theorem ok_again {f fB fF fS : Addr} {fd fdB fdF fdS : FuncData} (F : Fun K "_law_again" "_law_again" s_again f fd) (T : Txt2 K mg) (L : LawT P w K mg base CB fB fF fS fdB fdF fdS) :
    FnOk P w K mg base CX0 4 f fd ["rows", "task", "burst", "rate", "at"] (spD K RAgain) := by
  refine dfn F sc_again (fun ds out h => ?_) (fun ds out h cdv A outer s H E hr => ?_)
  · obtain ⟨_, _, _, _, _, _, rfl, _, _, _, _, _, _, rfl⟩ := h; exact ⟨rfl, nofun⟩
  · obtain ⟨rs, task, burst, rn, rd, i, rfl, R, hlen, hat, hb, hrn, hrd, rfl⟩ := h
    obtain ⟨h1, h2, h3, h4⟩ := okB_iff hb
    refine dss_st (ds_if (dt_cmp c_eq (de_lenL T.len (de_var 0)) de_int) (fun hz => ?_) (fun hz => ?_))
    · exact dss_st (ds_ret de_bl rfl)
    have hi : i < rs.length := by
      have hz : ¬ (((rs.map rowD).length : Int) = 0) := of_decide_eq_false hz
      rw [List.length_map] at hz
      omega
    have hi2 : (rs.map rowD).length = rs.length := List.length_map ..
    have G := R.good (Nat.le_refl _) hlen task
    have R' := erase_ok (i := i) R
    have hl' : (rs.eraseIdx i).length ≤ 100 := Nat.le_trans (List.length_eraseIdx_le rs i) hlen
    have G' := R'.good (Nat.le_refl _) hl' task
    obtain ⟨o, ho⟩ := isFirst_ex rs task burst rn rd
    obtain ⟨o', ho'⟩ := isFirst_ex (rs.eraseIdx i) task burst rn rd
    have he : (rs.map rowD).take i ++ (rs.map rowD).drop (i + 1) = (rs.eraseIdx i).map rowD := by
      rw [List.eraseIdx_eq_take_drop_succ, List.map_append, List.map_take, List.map_drop]
    refine dss_nil (dss_st (ds_set 5 sc_again.nd ((df_cat (df_slL (de_var 0) do_none (do_some (de_var 4))).de (df_slL (de_var 0) (do_some (de_add (de_var 4) de_int)) do_none).de (by
      rw [cutD_take, show ((i : Int) + 1) = ((i + 1 : Nat) : Int) by omega, cutD_drop, ← List.length_append, he, List.length_map, sizeLine_eq]; omega)).de.eq (d' := rowsD (rs.eraseIdx i)) (by
      show D.lst _ = D.lst _
      rw [cutD_take, show ((i : Int) + 1) = ((i + 1 : Nat) : Int) by omega, cutD_drop, he])) ?_))
    refine dss_st (ds_set 6 sc_again.nd (df_lst (da_cons (de_call L.GF (hr.mono (by decide)) L.mF L.kF L.bF pass0 (da_cons (de_var 0) (da_cons (de_var 1) (da_cons (de_var 2) (da_cons (de_var 3) da_nil)))) (d := optD o) ⟨rs, task, burst, rn, rd, o, rfl, G, h3, by omega, hrd, by omega, ho, rfl⟩)
      (da_cons (de_call L.GF (hr.mono (by decide)) L.mF L.kF L.bF pass0 (da_cons (de_var 5) (da_cons (de_var 1) (da_cons (de_var 2) (da_cons (de_var 3) da_nil)))) (d := optD o') ⟨rs.eraseIdx i, task, burst, rn, rd, o', rfl, G', h3, by omega, hrd, by omega, ho', rfl⟩) da_nil))).de ?_)
    refine dss_st (ds_own 7 sc_again.nd (df_listOfL T.list (de_var 0)) ?_)
    refine dss_st (ds_own 8 sc_again.nd (df_lst (da_cons (de_lend 7 (xs := rs.map rowD) (de_call L.GB (hr.mono (by decide)) L.mB L.kB L.bB passX (da_cons (de_var 7) (da_cons (de_var 1) (da_cons (de_var 2) (da_cons (de_var 3) da_nil)))) (d := optD o) ⟨rs, task, burst, rn, rd, rfl, G.fine, .inr ⟨hb, hrn, hrd, o, ho, rfl⟩⟩) (optD_flt o)) da_nil)) ?_)
    refine dss_st (ds_popAt 7 (ds := rs.map rowD) (n := i) (de_var 4) (by omega) (by omega) ?_)
    refine dss_st (ds_append 8 (ds := [optD o]) (de_lend 7 (xs := (rs.map rowD).eraseIdx i) (de_call L.GB (hr.mono (by decide)) L.mB L.kB L.bB passX (da_cons (de_var 7) (da_cons (de_var 1) (da_cons (de_var 2) (da_cons (de_var 3) da_nil)))) (d := optD o') ⟨rs.eraseIdx i, task, burst, rn, rd, by
      have : (rs.map rowD).eraseIdx i = (rs.eraseIdx i).map rowD := by rw [List.eraseIdx_eq_take_drop_succ, he]
      rw [this]; rfl, G'.fine, .inr ⟨hb, hrn, hrd, o', ho', rfl⟩⟩) (optD_flt o')) (by show 1 < sizeLine; rw [sizeLine_eq]; decide) ?_)
    refine dss_freeze 8 (m := .lst [optD o, optD o']) ?_
    refine dss_st (ds_ret (de_call (L.GS 2) hr L.mS L.kS L.bS pass0 (da_cons (de_var 8) (da_cons (de_var 6) da_nil)) (d := .bl true) ⟨.lst [optD o, optD o'], .lst [optD o, optD o'], rfl, by simp [D.ok, D.oks, optD_ok], by simp [D.ok, D.oks, optD_ok], by
      have := optD_dep o; have := optD_dep o'
      simp only [D.dep, D.deps]; omega, by simp [sameD, sameDs, optD_same]⟩) rfl)
end
end K47
set_option Elab.async false
set_option linter.all false
set_option maxRecDepth 100000
set_option maxHeartbeats 8000000
namespace K47
open PySem PySem.Spec PyProof.Rows L2 DL
local macro_rules | `(tactic| walk_at "le") => `(tactic| (first | exact trivial | exact ⟨.inl rfl, by walk_at "le"⟩ | exact ⟨.inr ⟨rfl, rfl⟩, by walk_at "le"⟩))
abbrev s_edges : Stmt := top 30
abbrev s_law : Stmt := top 32
theorem okB_of {burst rn rd : Int} (h1 : 1 ≤ burst) (h2 : burst ≤ 20) (h3 : 0 ≤ rn) (h4 : rd ≤ 20) : okB burst rn rd = true := by
  unfold okB
  have a1 : decide (1 ≤ burst) = true := decide_eq_true h1
  have a2 : decide (burst ≤ 20) = true := decide_eq_true h2
  have a3 : decide (rn < 0) = false := decide_eq_false (by omega)
  have a4 : decide (20 < rd) = false := decide_eq_false (by omega)
  rw [a1, a2, a3, a4]; rfl
theorem okB_no {burst rn rd : Int} (h : burst < 1 ∨ 20 < burst ∨ rn < 0 ∨ 20 < rd) : okB burst rn rd = false := by
  cases e : okB burst rn rd with
  | false => rfl
  | true => have := okB_iff e; omega
section
variable {P : Program} {w : World} {K : PySem.W.Frag} {mg : Str → Option Value} {base : Heap} {CB : Addr}
structure EdgT (P : Program) (w : World) (K : PySem.W.Frag) (mg : Str → Option Value) (base : Heap) (fA fK fL fG : Addr) (fdA fdK fdL fdG : FuncData) : Prop where
  GA : FnOk P w K mg base CX0 3 fA fdA ["rows", "task", "burst", "rate"] (spD K RAsked)
  bA : Binds K fdA ["rows", "task", "burst", "rate"] []
  mA : mg "_law_asked" = some (.ref fA)
  kA : PySem.W.keepIn K (.ref fA) = true
  GK : ∀ (ns : List Int) (names : List Str) (task : Str) (burst rn rd : Int), names[0]? = some task → task ≠ "strangers" → 1 ≤ burst → 0 ≤ rn → rn ≤ 1000 → 1 ≤ rd → rd ≤ 1000 →
    FnOk P w K mg base CX0 2 fK fdK ["script", "names", "burst", "rate"] (spN K (fun ds => ds = [.lst (ns.map .int), .lst (names.map .str), .int burst, rateD rn rd])
      (fun _ out => ∃ rs : List Row, out = .new (.lst (rs.map rowD)) ∧ RowsOk rs 20 ∧ (∀ r ∈ rs, r.t < 20) ∧ rs.length ≤ 40 ∧ Keeps rs task burst rn rd))
  bK : Binds K fdK ["script", "names", "burst", "rate"] []
  mK : mg "_law_kept" = some (.ref fK)
  kK : PySem.W.keepIn K (.ref fK) = true
  GL : ∀ (rs : List Row) (task : Str) (burst rn rd : Int) (tau : Nat), rs.length ≤ 100 → (∀ r ∈ rs, 1 ≤ r.n) → Keeps rs task burst rn rd → tau < 20 → 0 ≤ rn → rn ≤ 60 → 1 ≤ rd → rd ≤ 1000 → burst ≤ 20 →
    FnOk P w K mg base CX0 1 fL fdL ["rows", "task", "burst", "rate", "tick"] (spN K (fun ds => ds = [rowsD rs, .str task, .int burst, rateD rn rd, .int (tau : Int)])
      (fun _ out => ∃ sl : Int, out = .val (.int sl) ∧ 0 ≤ sl ∧ ∃ f b, f ≤ tau ∧ tau < b ∧ sl = vl rs task burst rn rd f b))
  bL : Binds K fdL ["rows", "task", "burst", "rate", "tick"] []
  mL : mg "_law_slack" = some (.ref fL)
  kL : PySem.W.keepIn K (.ref fL) = true
  GG : FnOk P w K mg base CX0 1 fG fdG ["rows", "at", "more"] (spD K RGrown)
  bG : Binds K fdG ["rows", "at", "more"] []
  mG : mg "_law_grown" = some (.ref fG)
  kG : PySem.W.keepIn K (.ref fG) = true
def REdges (ds : List D) (out : Out) : Prop := ∃ (ns : List Int) (names : List Str) (task : Str) (burst rn rd : Int), ds = [.lst (ns.map .int), .lst (names.map .str), .int burst, rateD rn rd] ∧ names[0]? = some task ∧ task ≠ "strangers" ∧ 1 ≤ burst ∧ burst ≤ 20 ∧ 0 ≤ rn ∧ rn ≤ 60 ∧ 1 ≤ rd ∧ rd ≤ 20 ∧ out = .val (.bl true)
theorem sc_edges : FnScope ["script", "names", "burst", "rate", "rows", "task", "places", "k", "at", "slack", "beyond"] ["script", "names", "burst", "rate"] (defScope s_edges) := ⟨rfl, rfl, rfl, by decide +kernel, rfl, by decide +kernel, by decide +kernel⟩
def isAt (rs : List Row) (task : Str) (k : Nat) : Bool := match rs[k]? with
  | some r => decide (r.s = task)
  | none => false
theorem ok_edges {f fA fK fL fG fB fF fS fC fD : Addr} {fd fdA fdK fdL fdG fdB fdF fdS fdC fdD : FuncData} (F : Fun K "_law_edges" "_law_edges" s_edges f fd) (T : Txt2 K mg) (L : LawT P w K mg base CB fB fF fS fdB fdF fdS) (Ed : EdgT P w K mg base fA fK fL fG fdA fdK fdL fdG) (Dg : Dig P w K mg base fC fD fdC fdD) :
    FnOk P w K mg base CX0 4 f fd ["script", "names", "burst", "rate"] (spD K REdges) := by
  refine dfn F sc_edges (fun ds out h => ?_) (fun ds out h cdv A outer s H E hr => ?_)
  · obtain ⟨_, _, _, _, _, _, rfl, _, _, _, _, _, _, _, _, rfl⟩ := h; exact ⟨rfl, nofun⟩
  · obtain ⟨ns, names, task, burst, rn, rd, rfl, hn0, hst, hb1, hb2, hr0, hr1, hd0, hd1, rfl⟩ := h
    have hok : okB burst rn rd = true := okB_of hb1 hb2 hr0 hd1
    refine dss_st (ds_ownN 4 (M := fun m => ∃ rs : List Row, m = .lst (rs.map rowD) ∧ RowsOk rs 20 ∧ (∀ r ∈ rs, r.t < 20) ∧ rs.length ≤ 40 ∧ Keeps rs task burst rn rd) sc_edges.nd
      (df_callN (Ed.GK ns names task burst rn rd hn0 hst hb1 hr0 (by omega) hd0 (by omega)) (hr.mono (by decide)) Ed.mK Ed.kK Ed.bK pass0 (da_cons (de_var 0) (da_cons (de_var 1) (da_cons (de_var 2) (da_cons (de_var 3) da_nil)))) rfl (fun out h => by
        obtain ⟨rs, rfl, h⟩ := h
        exact ⟨_, rfl, rs, rfl, h⟩)) ?_)
    rintro m ⟨rs, rfl, R, hlt, hlen, hK⟩
    refine dss_freeze 4 ?_
    refine dss_st (ds_set 5 sc_edges.nd (de_ixL (de_var 1) de_int (atI_nat (by rw [List.getElem?_map, hn0]; rfl)) (d := .str task)) ?_)
    have G := R.good (by decide) (by omega) task
    have ho : IsFirst rs task burst rn rd none := hK.ok hd0
    refine dss_st (ds_ifF ((dw_or (dt_cmp c_notN (de_call L.GF (hr.mono (by decide)) L.mF L.kF L.bF pass0 (da_cons (de_var 4) (da_cons (de_var 5) (da_cons (de_var 2) (da_cons (de_var 3) da_nil)))) (d := optD none) ⟨rs, task, burst, rn, rd, none, rfl, G, hr0, by omega, hd0, by omega, ho, rfl⟩) de_non)
      (fun _ => dw_or1 (dt_not (dt_val (de_call Ed.GA hr Ed.mA Ed.kA Ed.bA pass0 (da_cons (de_var 4) (da_cons (de_var 5) (da_cons (de_var 2) (da_cons (de_var 3) da_nil)))) (d := .bl true) ⟨rs, task, burst, rn, rd, rfl, G, hok, by omega, hd0, rfl⟩))))).dt.eq rfl) ?_)
    refine dss_nil (dss_st (ds_setLc1 6 7 (items := List.range rs.length) (f := fun (k : Nat) => D.int (0 + (k : Int))) (isAt rs task) (fun (k : Nat) => .int (0 + (k : Int))) rfl sc_edges.nd (di_range1 T.range ((de_lenL T.len (de_var 4)).eq (d' := .int (rs.length : Int)) (by rw [List.length_map])) (by omega) (by omega)) rfl (by rw [List.length_range, sizeLine_eq]; omega)
      (fun k hk s' H' C cl fp => ⟨dts_one ?_, fun _ => de_var 7⟩) ?_))
    · have hk := List.mem_range.mp hk
      obtain ⟨r, hr'⟩ : ∃ r, rs[k]? = some r := ⟨_, List.getElem?_eq_getElem hk⟩
      refine (dt_cmp c_eqS (de_ixT (de_ixL (de_var 4) (de_var 7) (d := rowD r) (by rw [Int.zero_add]; exact atI_nat (by rw [List.getElem?_map, hr']; rfl))) de_int (d := .str r.s)) (de_var 5)).eq ?_
      unfold isAt; rw [hr']
    refine dss_freeze 6 (m := .lst (((List.range rs.length).filter (isAt rs task)).map fun (k : Nat) => D.int (0 + (k : Int)))) ?_
    generalize hpl : (List.range rs.length).filter (isAt rs task) = pl
    refine dss_st (ds_if (dt_cmp c_eq (de_lenL T.len (de_var 6)) de_int) (fun hz => ?_) (fun hz => ?_))
    · exact dss_st (ds_ret de_bl rfl)
    have hpos : 0 < pl.length := by
      have hz : ¬ (((pl.map fun (k : Nat) => D.int (0 + (k : Int))).length : Int) = 0) := of_decide_eq_false hz
      rw [List.length_map] at hz
      omega
    have hplen : (pl.map fun (k : Nat) => D.int (0 + (k : Int))).length = pl.length := List.length_map ..
    have hdig := dig_get (cellN ns 40) (ss := [97]) ((5 : Nat) : Int) (by decide) 0 (s := 97) rfl
    have hdat := dig_at (cellN ns 40) (ss := [97]) ((5 : Nat) : Int) (by decide) 0 (s := 97) rfl
    generalize hdv : dI (digits (cellN ns 40) [97] ((5 : Nat) : Int)) 0 = dv at hdig hdat
    have m1 := Int.emod_nonneg dv (b := (pl.length : Int)) (by omega)
    have m2 := Int.emod_lt_of_pos dv (b := (pl.length : Int)) (by omega)
    obtain ⟨j, hj⟩ := Int.eq_ofNat_of_zero_le m1
    obtain ⟨i, hi⟩ : ∃ i, pl[j]? = some i := ⟨_, List.getElem?_eq_getElem (by omega)⟩
    have him : i ∈ (List.range rs.length).filter (isAt rs task) := by rw [hpl]; exact List.mem_of_getElem? hi
    obtain ⟨him1, him2⟩ := List.mem_filter.mp him
    have hilt := List.mem_range.mp him1
    obtain ⟨r, hri⟩ : ∃ r, rs[i]? = some r := ⟨_, List.getElem?_eq_getElem hilt⟩
    have hrs : r.s = task := by unfold isAt at him2; rw [hri] at him2; exact of_decide_eq_true him2
    have hrm := List.mem_of_getElem? hri
    refine dss_nil (dss_st (ds_set 8 sc_edges.nd (de_ixL (de_var 6) ((de_mod (de_int1 T.int (de_ixL (df_call Dg.GD (hr.mono (by decide)) Dg.mD Dg.kD Dg.bD pass0 (da_cons (de_call Dg.GC (hr.mono (by decide)) Dg.mC Dg.kC Dg.bC pass0 (da_cons (de_var 0) (da_cons de_int da_nil)) (d := .int (cellN ns 40)) ⟨ns, 40, rfl, rfl⟩)
      (da_cons (df_lst (da_cons de_int da_nil)).de (da_cons de_int da_nil))) (m := .lst ((digits (cellN ns 40) [97] ((5 : Nat) : Int)).map .int)) ⟨cellN ns 40, [97], 5, by rfl, by decide, by decide, by decide, rfl⟩).de de_int (d := .int dv) (atI_nat hdat))) (de_lenL T.len (de_var 6)) (by rw [hplen]; omega)).eq (d' := .int (j : Int)) (by rw [hplen]; exact congrArg D.int hj)) (d := .int (i : Int)) (atI_nat (by rw [List.getElem?_map, hi]; show some (D.int (0 + (i : Int))) = _; rw [Int.zero_add]))) ?_))
    have hrow : ((rs.map rowD))[i]? = some (rowD r) := by rw [List.getElem?_map, hri]; rfl
    refine dss_st (ds_setN 9 (M := fun d => ∃ sl : Int, d = .int sl ∧ 0 ≤ sl ∧ ∃ f b, f ≤ r.t ∧ r.t < b ∧ sl = vl rs task burst rn rd f b) sc_edges.nd
      (de_callN (Ed.GL rs task burst rn rd r.t (by omega) R.ps hK (hlt r hrm) hr0 hr1 hd0 (by omega) hb2) (hr.mono (by decide)) Ed.mL Ed.kL Ed.bL pass0 (da_cons (de_var 4) (da_cons (de_var 5) (da_cons (de_var 2) (da_cons (de_var 3) (da_cons (de_ixT (de_ixL (de_var 4) (de_var 8) (atI_nat hrow)) de_int (d := .int (r.t : Int))) da_nil))))) rfl (fun out h => by
        obtain ⟨sl, rfl, h⟩ := h
        exact ⟨_, rfl, sl, rfl, h⟩)) ?_)
    rintro d ⟨sl, rfl, hsl, f1, b1, hf1, hb1', hv⟩
    have g1 := (grown_ok hri hsl R).good (by decide) (by rw [grown_len hri]; omega) task
    have g2 := (grown_ok (m := sl + 1) hri (by omega) R).good (by decide) (by rw [grown_len hri]; omega) task
    refine dss_st (ds_ifF ((dt_not (dt_val (de_call Ed.GA hr Ed.mA Ed.kA Ed.bA pass0 (da_cons (df_call Ed.GG (hr.mono (by decide)) Ed.mG Ed.kG Ed.bG pass0 (da_cons (de_var 4) (da_cons (de_var 8) (da_cons (de_var 9) da_nil))) (m := .lst ((grownL rs i r sl).map rowD)) ⟨rs, i, r, sl, rfl, hri, by omega, rfl⟩).de (da_cons (de_var 5) (da_cons (de_var 2) (da_cons (de_var 3) da_nil)))) (d := .bl true) ⟨grownL rs i r sl, task, burst, rn, rd, rfl, g1, hok, by omega, hd0, rfl⟩))).eq rfl) ?_)
    refine dss_nil (dss_st (ds_set 10 sc_edges.nd (df_call Ed.GG (hr.mono (by decide)) Ed.mG Ed.kG Ed.bG pass0 (da_cons (de_var 4) (da_cons (de_var 8) (da_cons (de_add (de_var 9) de_int) da_nil))) (m := .lst ((grownL rs i r (sl + 1)).map rowD)) ⟨rs, i, r, sl + 1, rfl, hri, by omega, rfl⟩).de ?_))
    obtain ⟨o, hof⟩ := isFirst_ex (grownL rs i r (sl + 1)) task burst rn rd
    have hsome : (optD o).isNon = false := by
      cases o with
      | none => exact absurd hof (grown_bad hri hrs hr0 hd0 hf1 hb1' hv)
      | some p => rfl
    refine dss_st (ds_ifF ((dt_cmp c_isN (de_call L.GF (hr.mono (by decide)) L.mF L.kF L.bF pass0 (da_cons (de_var 10) (da_cons (de_var 5) (da_cons (de_var 2) (da_cons (de_var 3) da_nil)))) (d := optD o) ⟨grownL rs i r (sl + 1), task, burst, rn, rd, o, rfl, g2, hr0, by omega, hd0, by omega, hof, rfl⟩) de_non).eq hsome) ?_)
    exact dss_nil (dss_st (ds_ret (de_call Ed.GA hr Ed.mA Ed.kA Ed.bA pass0 (da_cons (de_var 10) (da_cons (de_var 5) (da_cons (de_var 2) (da_cons (de_var 3) da_nil)))) (d := .bl true) ⟨grownL rs i r (sl + 1), task, burst, rn, rd, rfl, g2, hok, by omega, hd0, rfl⟩) rfl))
end
end K47
set_option Elab.async false
set_option linter.all false
set_option maxRecDepth 100000
set_option maxHeartbeats 4000000
namespace K47
open PySem PySem.Spec PyProof.Rows L2 DL
local macro_rules | `(tactic| walk_at "le") => `(tactic| (first | exact trivial | exact ⟨.inl rfl, by walk_at "le"⟩ | exact ⟨.inr ⟨rfl, rfl⟩, by walk_at "le"⟩))
theorem low_ex (n d : Int) (h0 : 0 ≤ n) (h1 : n ≤ 60) (hd : 1 ≤ d) (h2 : d ≤ 20) : ∃ rn rd : Int, RLow [.int n, .int d] (.val (rateD rn rd)) ∧ 0 ≤ rn ∧ rn ≤ 60 ∧ 1 ≤ rd ∧ rd ≤ 20 :=
  ⟨_, _, ⟨n, d, rfl, h0, hd, by omega, rfl⟩, low_ok n d h0 h1 hd h2⟩
section
variable {P : Program} {w : World} {K : PySem.W.Frag} {mg : Str → Option Value} {base : Heap} {CB : Addr}
structure TopT (P : Program) (w : World) (K : PySem.W.Frag) (mg : Str → Option Value) (base : Heap) (fN fW fR fX fG fE : Addr) (fdN fdW fdR fdX fdG fdE : FuncData) : Prop where
  GN : FnOk P w K mg base CX0 2 fN fdN ["cell", "many"] (spD K RNames)
  bN : Binds K fdN ["cell", "many"] []
  mN : mg "_law_names" = some (.ref fN)
  kN : PySem.W.keepIn K (.ref fN) = true
  GW : FnOk P w K mg base CX0 1 fW fdW ["n", "d"] (spD K RLow)
  bW : Binds K fdW ["n", "d"] []
  mW : mg "_law_lowest" = some (.ref fW)
  kW : PySem.W.keepIn K (.ref fW) = true
  GR : FnOk P w K mg base CX0 2 fR fdR ["script", "names", "head"] (spN K PRows RRows)
  bR : Binds K fdR ["script", "names", "head"] []
  mR : mg "_law_rows" = some (.ref fR)
  kR : PySem.W.keepIn K (.ref fR) = true
  GX : FnOk P w K mg base CX0 3 fX fdX ["rows", "task", "burst", "rate"] (spD K RRefuses)
  bX : Binds K fdX ["rows", "task", "burst", "rate"] []
  mX : mg "_law_refuses" = some (.ref fX)
  kX : PySem.W.keepIn K (.ref fX) = true
  GG : FnOk P w K mg base CX0 4 fG fdG ["rows", "task", "burst", "rate", "at"] (spD K RAgain)
  bG : Binds K fdG ["rows", "task", "burst", "rate", "at"] []
  mG : mg "_law_again" = some (.ref fG)
  kG : PySem.W.keepIn K (.ref fG) = true
  GE : FnOk P w K mg base CX0 4 fE fdE ["script", "names", "burst", "rate"] (spD K REdges)
  bE : Binds K fdE ["script", "names", "burst", "rate"] []
  mE : mg "_law_edges" = some (.ref fE)
  kE : PySem.W.keepIn K (.ref fE) = true
def RLaw (ds : List D) (out : Out) : Prop := ∃ ns : List Int, ds = [.lst (ns.map .int)] ∧ out = .val (.bl true)
theorem sc_law : FnScope ["script", "names", "head", "burst", "rate", "rows", "task", "told"] ["script"] (defScope s_law) := ⟨rfl, rfl, rfl, by decide +kernel, rfl, by decide +kernel, by decide +kernel⟩
theorem de_pair {X : Cx} {ρ : List Sl} {a b c : Int} {p p1 p2 p3 p4 : Pos} {j k : Nat} : DE X ρ (.Tuple [.Constant (.int a) 0 p, .Tuple [.Constant (.int b) 0 p1, .Constant (.int c) 0 p2] j p3] k p4) (.tup [.int a, rateD b c]) := de_tup (da_cons de_int (da_cons (de_tup (da_cons de_int (da_cons de_int da_nil))) da_nil))
def askD (bu a b : Int) : D := .tup [.int bu, rateD a b]
theorem de_ask {X : Cx} {ρ : List Sl} {a b c : Int} {p p1 p2 p3 p4 : Pos} {j k : Nat} : DE X ρ (.Tuple [.Constant (.int a) 0 p, .Tuple [.Constant (.int b) 0 p1, .Constant (.int c) 0 p2] j p3] k p4) (askD a b c) := de_pair
theorem de_askE {X : Cx} {ρ : List Sl} {a b c : Int} {p p1 p2 p3 p4 : Pos} {j k : Nat} {it : Expr} (e : Expr.Tuple [.Constant (.int a) 0 p, .Tuple [.Constant (.int b) 0 p1, .Constant (.int c) 0 p2] j p3] k p4 = it) : DE X ρ it (askD a b c) := e ▸ de_pair
theorem star_tup {env : Env} {ts : List Expr} {k : Nat} {q : Pos} {it : Expr} {es : List Expr} (e : Expr.Tuple ts k q = it) : starEach (it :: es) env = (false, eval it env) :: starEach es env := by subst e; rfl
theorem law_tail4 {f fA fK fL fH fN fW fR fX fG fE : Addr} {fdA fdK fdL fdH fdN fdW fdR fdX fdG fdE : FuncData} (Ed : EdgT P w K mg base fA fK fL fH fdA fdK fdL fdH) (Tp : TopT P w K mg base fN fW fR fX fG fE fdN fdW fdR fdX fdG fdE)
    {cdv : Value} {A : Around} {outer : List Env} {s : Shared} {H : Hp} {E : XK} (hr : Room 4 (A.deeper (envOfC "law" (defScope s_law) s.heap.objs.size f cdv))) {ns hd : List Int} {names : List Str} {n0 : Str} {burst rn rd : Int} {rs : List Row}
    (hn0 : names[0]? = some n0) (hn0d : (names.map D.str)[0]? = some (.str n0)) (hst : n0 ≠ "strangers") (hb1 : 1 ≤ burst) (hb2 : burst ≤ 20) (l1 : 0 ≤ rn) (l2 : rn ≤ 60) (l3 : 1 ≤ rd) (l4 : rd ≤ 20) (G : ∀ task, Good rs task) {D' : DEnds} (hD : D'.rt (.bl true)) :
    DSs (cxOf CX0 P w K mg base ["script", "names", "head", "burst", "rate", "rows", "task", "told"] "law" (defScope s_law) f cdv A outer s H E).nox [.dat (.lst (ns.map .int)), .dat (.lst (names.map .str)), .dat (.lst (hd.map .int)), .dat (.int burst), .dat (rateD rn rd), .dat (rowsD rs), .emp, .emp] ((defBody s_law).drop 9) D' := by
  -- the ends of the ranges
  refine dss_st ?_
  generalize hT1 : (Expr.Tuple _ _ _) = t1
  generalize hT2 : (Expr.Tuple _ _ _) = t2
  generalize hT3 : (Expr.Tuple _ _ _) = t3
  generalize hT4 : (Expr.Tuple _ _ _) = t4
  refine (ds_each 7 (items := [askD 20 1 20, askD 1 0 1, askD 20 19 20, askD 1 41 20]) (fun k ρ => ρ = [.dat (.lst (ns.map .int)), .dat (.lst (names.map .str)), .dat (.lst (hd.map .int)), .dat (.int burst), .dat (rateD rn rd), .dat (rowsD rs), .emp, .emp])
    sc_law.nd PassesOwn.never rfl (df_lst (da_cons (de_askE hT1) (da_cons (de_askE hT2) (da_cons (de_askE hT3) (da_cons (de_askE hT4) da_nil (star_tup hT4)) (star_tup hT3)) (star_tup hT2)) (star_tup hT1))).de (Up.intro rfl (by walk_at "le")) ?_ ?_)
  · rintro k y ρ' hy rfl
    refine ⟨(by intro m h; cases h), ?_⟩
    obtain ⟨bu, a, b, rfl, hz, h1', h2'⟩ : ∃ bu a b : Int, y = askD bu a b ∧ okB bu a b = true ∧ a ≤ 1000 ∧ 1 ≤ b := by
      have := List.mem_of_getElem? hy
      simp only [List.mem_cons, List.not_mem_nil, or_false] at this
      rcases this with rfl | rfl | rfl | rfl
      all_goals exact ⟨_, _, _, rfl, okB_of (by omega) (by omega) (by omega) (by omega), by omega, by omega⟩
    refine dss_st (ds_ifF ((dt_not (dt_val (de_call Ed.GA (hr.mono (by decide)) Ed.mA Ed.kA Ed.bA pass0 (da_cons (de_var 5) (da_cons (de_ixL (de_var 1) de_int (atI_nat hn0d)) (da_cons (de_ixT (de_var 7) de_int (d := .int bu)) (da_cons (de_ixT (de_var 7) de_int (d := rateD a b)) da_nil)))) (d := .bl true) ⟨rs, n0, bu, a, b, rfl, G n0, hz, h1', h2', rfl⟩))).eq rfl) ?_)
    exact dss_nil (dss_nil (Up.intro rfl (by walk_at "le")))
  rintro ρ' rfl
  refine dss_st ?_
  exact (ds_ret (de_call Tp.GE hr Tp.mE Tp.kE Tp.bE pass0 (da_cons (de_var 0) (da_cons (de_var 1) (da_cons (de_var 3) (da_cons (de_var 4) da_nil)))) (d := .bl true) ⟨ns, names, n0, burst, rn, rd, rfl, hn0, hst, hb1, hb2, l1, l2, l3, l4, rfl⟩) hD)
theorem body9 : defBody s_law = (defBody s_law).getD 0 (.Pass ⟨0, 0, 0, 0⟩) :: (defBody s_law).getD 1 (.Pass ⟨0, 0, 0, 0⟩) :: (defBody s_law).getD 2 (.Pass ⟨0, 0, 0, 0⟩) :: (defBody s_law).getD 3 (.Pass ⟨0, 0, 0, 0⟩) :: (defBody s_law).getD 4 (.Pass ⟨0, 0, 0, 0⟩) :: (defBody s_law).getD 5 (.Pass ⟨0, 0, 0, 0⟩) :: (defBody s_law).getD 6 (.Pass ⟨0, 0, 0, 0⟩) :: (defBody s_law).getD 7 (.Pass ⟨0, 0, 0, 0⟩) :: (defBody s_law).getD 8 (.Pass ⟨0, 0, 0, 0⟩) :: (defBody s_law).drop 9 := rfl
end
end K47
set_option Elab.async false
set_option linter.all false
set_option maxRecDepth 100000
set_option maxHeartbeats 4000000
namespace K47
open PySem PySem.Spec PyProof.Rows L2 DL
local macro_rules | `(tactic| walk_at "le") => `(tactic| (first | exact trivial | exact ⟨.inl rfl, by walk_at "le"⟩ | exact ⟨.inr ⟨rfl, rfl⟩, by walk_at "le"⟩))
section
variable {P : Program} {w : World} {K : PySem.W.Frag} {mg : Str → Option Value} {base : Heap} {CB : Addr}
theorem law_front {f fA fK fL fH fC fD fN fW fR fX fG fE : Addr} {fdA fdK fdL fdH fdC fdD fdN fdW fdR fdX fdG fdE : FuncData} (T : Txt2 K mg) (Ed : EdgT P w K mg base fA fK fL fH fdA fdK fdL fdH) (Dg : Dig P w K mg base fC fD fdC fdD) (Tp : TopT P w K mg base fN fW fR fX fG fE fdN fdW fdR fdX fdG fdE)
    {cdv : Value} {A : Around} {outer : List Env} {s : Shared} {H : Hp} {E : XK} (hr : Room 4 (A.deeper (envOfC "law" (defScope s_law) s.heap.objs.size f cdv))) {ns : List Int} {rest : List Stmt} {D' : DEnds}
    (tail : ∀ (hd : List Int) (names : List Str) (n0 : Str) (burst rn rd : Int) (rs : List Row), names[0]? = some n0 → (names.map D.str)[0]? = some (.str n0) → n0 ≠ "strangers" → 1 ≤ burst → burst ≤ 20 → 0 ≤ rn → rn ≤ 60 → 1 ≤ rd → rd ≤ 20 → (∀ task, Good rs task) →
      DSs (cxOf CX0 P w K mg base ["script", "names", "head", "burst", "rate", "rows", "task", "told"] "law" (defScope s_law) f cdv A outer s H E).nox [.dat (.lst (ns.map .int)), .dat (.lst (names.map .str)), .dat (.lst (hd.map .int)), .dat (.int burst), .dat (rateD rn rd), .dat (rowsD rs), .emp, .emp] rest D') :
    DSs (cxOf CX0 P w K mg base ["script", "names", "head", "burst", "rate", "rows", "task", "told"] "law" (defScope s_law) f cdv A outer s H E).nox (startS ["script", "names", "head", "burst", "rate", "rows", "task", "told"] [.lst (ns.map .int)]) ((defBody s_law).getD 0 (.Pass ⟨0, 0, 0, 0⟩) :: (defBody s_law).getD 1 (.Pass ⟨0, 0, 0, 0⟩) :: (defBody s_law).getD 2 (.Pass ⟨0, 0, 0, 0⟩) :: (defBody s_law).getD 3 (.Pass ⟨0, 0, 0, 0⟩) :: (defBody s_law).getD 4 (.Pass ⟨0, 0, 0, 0⟩) :: (defBody s_law).getD 5 (.Pass ⟨0, 0, 0, 0⟩) :: (defBody s_law).getD 6 (.Pass ⟨0, 0, 0, 0⟩) :: (defBody s_law).getD 7 (.Pass ⟨0, 0, 0, 0⟩) :: (defBody s_law).getD 8 (.Pass ⟨0, 0, 0, 0⟩) :: rest) D' := by
  -- names
  refine dss_st (ds_set 1 sc_law.nd (df_call Tp.GN (hr.mono (by decide)) Tp.mN Tp.kN Tp.bN pass0 (da_cons (de_call Dg.GC (hr.mono (by decide)) Dg.mC Dg.kC Dg.bC pass0 (da_cons (de_var 0) (da_cons de_int da_nil)) (d := .int (cellN ns 0)) ⟨ns, 0, rfl, rfl⟩) (da_cons de_int da_nil))
    (m := .lst ((nmL (cellN ns 0) 3).map .str)) ⟨cellN ns 0, 3, rfl, by decide, rfl⟩).de ?_)
  have hnpos : 0 < (nmL (cellN ns 0) 3).length := nmL_pos (cellN ns 0) 2
  have hncnt : (nmL (cellN ns 0) 3).length ≤ 3 := nmL_count (cellN ns 0) 3
  have hnlen := nmL_len (cellN ns 0) 3
  generalize hnames : nmL (cellN ns 0) 3 = names at hnpos hncnt hnlen
  obtain ⟨n0, hn0⟩ : ∃ n0, names[0]? = some n0 := ⟨_, List.getElem?_eq_getElem hnpos⟩
  have hn0d : (names.map D.str)[0]? = some (.str n0) := by rw [List.getElem?_map, hn0]; rfl
  have hst : n0 ≠ "strangers" := by
    intro e
    have := hnlen n0 (List.mem_of_getElem? hn0)
    rw [e] at this
    exact absurd this (by decide)
  -- head
  refine dss_st (ds_set 2 sc_law.nd (df_call Dg.GD (hr.mono (by decide)) Dg.mD Dg.kD Dg.bD pass0 (da_cons (de_call Dg.GC (hr.mono (by decide)) Dg.mC Dg.kC Dg.bC pass0 (da_cons (de_var 0) (da_cons de_int da_nil)) (d := .int (cellN ns 1)) ⟨ns, 1, rfl, rfl⟩)
    (da_cons (df_lst (da_cons de_int (da_cons de_int (da_cons de_int (da_cons de_int (da_cons de_int (da_cons de_int (da_cons de_int (da_cons de_int da_nil))))))))).de (da_cons de_int da_nil))) (m := .lst ((digits (cellN ns 1) hs8 ((1 : Nat) : Int)).map .int)) ⟨cellN ns 1, hs8, 1, by rfl, by decide, by decide, by decide, rfl⟩).de ?_)
  have hh := head_ok (cellN ns 1) ((1 : Nat) : Int)
  generalize hhd : digits (cellN ns 1) hs8 ((1 : Nat) : Int) = hd at hh
  have hha : ∀ (i : Nat) (s : Int), hs8[i]? = some s → (hd.map D.int)[i]? = some (D.int (dI hd i)) := fun i s h => by rw [List.getElem?_map, (hh i s h).1]; rfl
  have h0 := (hh 0 20 rfl).2
  have h1 := (hh 1 61 rfl).2
  have h2 := (hh 2 20 rfl).2
  have h7 := (hh 7 12 rfl).2
  -- burst, rate
  refine dss_st (ds_set 3 sc_law.nd (de_add de_int (de_ixL (de_var 2) de_int (atI_nat (hha 0 20 rfl)))) ?_)
  generalize hbu : 1 + dI hd 0 = burst
  have hb1 : 1 ≤ burst := by omega
  have hb2 : burst ≤ 20 := by omega
  have m1 := Int.emod_nonneg (dI hd 1) (b := 3 * (1 + dI hd 2) + 1) (by omega)
  have m2 := Int.emod_lt_of_pos (dI hd 1) (b := 3 * (1 + dI hd 2) + 1) (by omega)
  obtain ⟨nv, hnv⟩ : ∃ nv, nv = dI hd 1 % (3 * (1 + dI hd 2) + 1) := ⟨_, rfl⟩
  obtain ⟨dv, hdv⟩ : ∃ dv, dv = 1 + dI hd 2 := ⟨_, rfl⟩
  obtain ⟨rn, rd, hlow, l1, l2, l3, l4⟩ := low_ex nv dv (by omega) (by omega) (by omega) (by omega)
  refine dss_st (ds_set 4 sc_law.nd (de_call Tp.GW (hr.mono (by decide)) Tp.mW Tp.kW Tp.bW pass0 (da_cons ((de_mod (de_int1 T.int (de_ixL (de_var 2) de_int (atI_nat (hha 1 61 rfl)))) (de_add (de_mul de_int (de_add de_int (de_ixL (de_var 2) de_int (atI_nat (hha 2 20 rfl)))) (.inl (by decide))) de_int) (by omega)).eq (d' := .int nv) (congrArg D.int hnv.symm))
    (da_cons ((de_add de_int (de_ixL (de_var 2) de_int (atI_nat (hha 2 20 rfl)))).eq (d' := .int dv) (congrArg D.int hdv.symm)) da_nil)) (d := rateD rn rd) hlow) ?_)
  have hok : okB burst rn rd = true := okB_of hb1 hb2 l1 l4
  -- rows
  refine dss_st (ds_ownN 5 (M := fun m => ∃ rs : List Row, m = .lst (rs.map rowD) ∧ RowsOk rs 400 ∧ rs.length ≤ 20) sc_law.nd
    (df_callN Tp.GR (hr.mono (by decide)) Tp.mR Tp.kR Tp.bR pass0 (da_cons (de_var 0) (da_cons (de_var 1) (da_cons (de_var 2) da_nil))) ⟨ns, names, hd, rfl, hh, hnpos, by omega⟩ (fun out h => by
      obtain ⟨rs, rfl, h⟩ := h
      exact ⟨_, rfl, rs, rfl, h⟩)) ?_)
  rintro m ⟨rs, rfl, R, hlen⟩
  refine dss_freeze 5 ?_
  have G := fun task => R.good (Nat.le_refl _) (show rs.length ≤ 100 by omega) task
  -- for task in names + ["strangers"]
  refine dss_st (ds_each 6 (items := names.map .str ++ [.str "strangers"]) (fun k ρ => ρ = [.dat (.lst (ns.map .int)), .dat (.lst (names.map .str)), .dat (.lst (hd.map .int)), .dat (.int burst), .dat (rateD rn rd), .dat (rowsD rs), .emp, .emp])
    sc_law.nd PassesOwn.never rfl (df_cat (de_var 1) (df_lst (da_cons de_str da_nil)).de (by rw [List.length_map, sizeLine_eq]; show names.length + 1 ≤ _; omega)).de (Up.intro rfl (by walk_at "le")) ?_ ?_)
  · rintro k y ρ' hy rfl
    refine ⟨(by intro m h; cases h), ?_⟩
    obtain ⟨task, rfl⟩ : ∃ task, y = .str task := by
      rcases List.mem_append.mp (List.mem_of_getElem? hy) with q | q
      · obtain ⟨t, _, rfl⟩ := List.mem_map.mp q; exact ⟨t, rfl⟩
      · exact ⟨_, List.mem_singleton.mp q⟩
    refine dss_st (ds_ifF ((dt_not (dt_val (de_call Ed.GA (hr.mono (by decide)) Ed.mA Ed.kA Ed.bA pass0 (da_cons (de_var 5) (da_cons (de_var 6) (da_cons (de_var 3) (da_cons (de_var 4) da_nil)))) (d := .bl true) ⟨rs, task, burst, rn, rd, rfl, G task, hok, by omega, l3, rfl⟩))).eq rfl) ?_)
    exact dss_nil (dss_nil (Up.intro rfl (by walk_at "le")))
  rintro ρ' rfl
  -- again
  obtain ⟨M, hM, hM1, hM2⟩ : ∃ M : Int, M = (if (rs.length : Int) > 1 then (rs.length : Int) else 1) ∧ 1 ≤ M ∧ (rs.length = 0 ∨ M ≤ (rs.length : Int)) := by
    refine ⟨_, rfl, ?_, ?_⟩
    · split <;> omega
    · split <;> omega
  have u1 := Int.emod_nonneg (dI hd 7) (b := M) (by omega)
  have u2 := Int.emod_lt_of_pos (dI hd 7) (b := M) (by omega)
  obtain ⟨j, hj⟩ := Int.eq_ofNat_of_zero_le u1
  have hrl : ((rs.map rowD).length : Int) = (rs.length : Int) := by rw [List.length_map]
  refine dss_st (ds_ifF ((dt_not (dt_val (de_call Tp.GG (hr.mono (by decide)) Tp.mG Tp.kG Tp.bG pass0 (da_cons (de_var 5) (da_cons (de_ixL (de_var 1) de_int (atI_nat hn0d)) (da_cons (de_var 3) (da_cons (de_var 4) (da_cons ((de_mod (de_int1 T.int (de_ixL (de_var 2) de_int (atI_nat (hha 7 12 rfl)))) ((de_max2 rfl T.max de_int (de_lenL T.len (de_var 5))).eq (d' := .int M) (by rw [hM, hrl])) (by omega)).eq (d' := .int (j : Int)) (congrArg D.int hj)) da_nil)))))
    (d := .bl true) ⟨rs, n0, burst, rn, rd, j, rfl, R, by omega, by omega, hok, by omega, l3, rfl⟩))).eq rfl) ?_)
  have FI : Fine rs := (G n0).fine
  -- refused bursts
  refine dss_nil (dss_st (ds_each 7 (items := [.int 0, .int 21, .int (-burst), .int (21 + dI hd 1)]) (fun k ρ => ρ = [.dat (.lst (ns.map .int)), .dat (.lst (names.map .str)), .dat (.lst (hd.map .int)), .dat (.int burst), .dat (rateD rn rd), .dat (rowsD rs), .emp, .emp])
    sc_law.nd PassesOwn.never rfl (df_lst (da_cons de_int (da_cons de_int (da_cons (de_neg (de_var 3)) (da_cons (de_add de_int (de_ixL (de_var 2) de_int (atI_nat (hha 1 61 rfl)))) da_nil))))).de (Up.intro rfl (by walk_at "le")) ?_ ?_))
  · rintro k y ρ' hy rfl
    refine ⟨(by intro m h; cases h), ?_⟩
    obtain ⟨z, rfl, hz⟩ : ∃ z : Int, y = .int z ∧ okB z rn rd = false := by
      have := List.mem_of_getElem? hy
      simp only [List.mem_cons, List.not_mem_nil, or_false] at this
      rcases this with rfl | rfl | rfl | rfl
      · exact ⟨_, rfl, okB_no (by omega)⟩
      · exact ⟨_, rfl, okB_no (by omega)⟩
      · exact ⟨_, rfl, okB_no (by omega)⟩
      · exact ⟨_, rfl, okB_no (by omega)⟩
    refine dss_st (ds_ifF ((dt_not (dt_val (de_call Tp.GX (hr.mono (by decide)) Tp.mX Tp.kX Tp.bX pass0 (da_cons (de_var 5) (da_cons (de_ixL (de_var 1) de_int (atI_nat hn0d)) (da_cons (de_var 7) (da_cons (de_var 4) da_nil)))) (d := .bl true) ⟨rs, n0, z, rn, rd, rfl, FI, hz, rfl⟩))).eq rfl) ?_)
    exact dss_nil (dss_nil (Up.intro rfl (by walk_at "le")))
  rintro ρ' rfl
  -- refused rates
  refine dss_st (ds_each 7 (items := [rateD (-1 - dI hd 1) 1, rateD (-1) 20, rateD (-3) 7, rateD 1 21, rateD 20 21, rateD 1 (22 + dI hd 1), rateD 65 21, rateD (-1) 21]) (fun k ρ => ρ = [.dat (.lst (ns.map .int)), .dat (.lst (names.map .str)), .dat (.lst (hd.map .int)), .dat (.int burst), .dat (rateD rn rd), .dat (rowsD rs), .emp, .emp])
    sc_law.nd PassesOwn.never rfl (df_lst (da_cons (de_tup (da_cons (de_sub (de_neg de_int) (de_ixL (de_var 2) de_int (atI_nat (hha 1 61 rfl)))) (da_cons de_int da_nil))) (da_cons (de_tup (da_cons (de_neg de_int) (da_cons de_int da_nil))) (da_cons (de_tup (da_cons (de_neg de_int) (da_cons de_int da_nil))) (da_cons (de_tup (da_cons de_int (da_cons de_int da_nil))) (da_cons (de_tup (da_cons de_int (da_cons de_int da_nil)))
      (da_cons (de_tup (da_cons de_int (da_cons (de_add de_int (de_ixL (de_var 2) de_int (atI_nat (hha 1 61 rfl)))) da_nil))) (da_cons (de_tup (da_cons de_int (da_cons de_int da_nil))) (da_cons (de_tup (da_cons (de_neg de_int) (da_cons de_int da_nil))) da_nil))))))))).de (Up.intro rfl (by walk_at "le")) ?_ ?_)
  · rintro k y ρ' hy rfl
    refine ⟨(by intro m h; cases h), ?_⟩
    obtain ⟨a, b, rfl, hz⟩ : ∃ a b : Int, y = rateD a b ∧ ∀ bu, okB bu a b = false := by
      have := List.mem_of_getElem? hy
      simp only [List.mem_cons, List.not_mem_nil, or_false] at this
      rcases this with rfl | rfl | rfl | rfl | rfl | rfl | rfl | rfl
      all_goals exact ⟨_, _, rfl, fun bu => okB_no (by omega)⟩
    refine dss_st (ds_ifF ((dw_or (dt_not (dt_val (de_call Tp.GX (hr.mono (by decide)) Tp.mX Tp.kX Tp.bX pass0 (da_cons (de_var 5) (da_cons (de_ixL (de_var 1) de_int (atI_nat hn0d)) (da_cons (de_var 3) (da_cons (de_var 7) da_nil)))) (d := .bl true) ⟨rs, n0, burst, a, b, rfl, FI, hz _, rfl⟩)))
      (fun _ => dw_or1 (dt_not (dt_val (de_call Tp.GX (hr.mono (by decide)) Tp.mX Tp.kX Tp.bX pass0 (da_cons (de_var 5) (da_cons (de_ixL (de_var 1) de_int (atI_nat hn0d)) (da_cons de_int (da_cons (de_var 7) da_nil)))) (d := .bl true) ⟨rs, n0, 21, a, b, rfl, FI, hz _, rfl⟩))))).dt.eq rfl) ?_)
    exact dss_nil (dss_nil (Up.intro rfl (by walk_at "le")))
  rintro ρ' rfl
  exact tail hd names n0 burst rn rd rs hn0 hn0d hst hb1 hb2 l1 l2 l3 l4 G
end
end K47
set_option Elab.async false
set_option linter.all false
set_option maxRecDepth 100000
set_option maxHeartbeats 1000000
namespace K47
open PySem PySem.Spec PyProof.Rows L2 DL
local macro_rules | `(tactic| walk_at "le") => `(tactic| (first | exact trivial | exact ⟨.inl rfl, by walk_at "le"⟩ | exact ⟨.inr ⟨rfl, rfl⟩, by walk_at "le"⟩))
section
variable {P : Program} {w : World} {K : PySem.W.Frag} {mg : Str → Option Value} {base : Heap} {CB : Addr}
theorem ok_law {f fA fK fL fH fC fD fN fW fR fX fG fE : Addr} {fd fdA fdK fdL fdH fdC fdD fdN fdW fdR fdX fdG fdE : FuncData} (F : Fun K "law" "law" s_law f fd) (T : Txt2 K mg) (Ed : EdgT P w K mg base fA fK fL fH fdA fdK fdL fdH) (Dg : Dig P w K mg base fC fD fdC fdD) (Tp : TopT P w K mg base fN fW fR fX fG fE fdN fdW fdR fdX fdG fdE) :
    FnOk P w K mg base CX0 5 f fd ["script"] (spD K RLaw) := by
  refine dfn F sc_law (fun ds out h => ?_) (fun ds out h cdv A outer s H E hr => ?_)
  · obtain ⟨_, rfl, rfl⟩ := h; exact ⟨rfl, nofun⟩
  · obtain ⟨ns, rfl, rfl⟩ := h
    rw [body9]
    refine law_front T Ed Dg Tp hr (fun hd names n0 burst rn rd rs hn0 hn0d hst hb1 hb2 l1 l2 l3 l4 G => ?_)
    exact law_tail4 Ed Tp hr hn0 hn0d hst hb1 hb2 l1 l2 l3 l4 G rfl
end
end K47
set_option Elab.async false
set_option linter.all false
set_option maxRecDepth 100000
set_option maxHeartbeats 4000000
namespace K47
open PySem PySem.Spec PyProof.Rows L2 DL
theorem all_mk {l : PySem.W.OpenLaw} {w : World} {K : PySem.W.Frag} {h : Heap} {mg : Str → Option Value} {fa : Addr} {f_check_rate f_sums_of f_first_break f__law_cell f__law_digits f__law_same f__law_only f__law_names f__law_lowest f__law_first f__law_rows f__law_kept f__law_slack f__law_asked f__law_refuses f__law_grown f__law_edges f__law_again f_law : Addr} {C_BadNumber C_BadCode C_BadName C_BadText C_NoRoom C_NotFree C_StaleKey C_TooMany C_ShareError : Addr} (X : K.In h) (G : h.Ns mainGlobals mg) (hfa : mg "law" = some (.ref fa))
    {od1 an1 od2 an2 od3 an3 od4 an4 od5 an5 od6 an6 od7 an7 od8 an8 od9 an9 od10 an10 od11 an11 od12 an12 od13 an13 od14 an14 od15 an15 od16 an16 od17 an17 od18 an18 od19 an19 : Option Addr} {sl1 sl2 sl3 sl4 sl5 sl6 sl7 sl8 sl9 sl10 sl11 sl12 sl13 sl14 sl15 sl16 sl17 sl18 sl19 : Array (Option Value)} {oc1 kV1 dc1 pm1 cd1 ct1 oc2 kV2 dc2 pm2 cd2 ct2 oc3 kV3 dc3 pm3 cd3 ct3 oc4 kV4 dc4 pm4 cd4 ct4 oc5 kV5 dc5 pm5 cd5 ct5 oc6 kV6 dc6 pm6 cd6 ct6 oc7 kV7 dc7 pm7 cd7 ct7 oc8 kV8 dc8 pm8 cd8 ct8 oc9 kV9 dc9 pm9 cd9 ct9 oc10 kV10 dc10 pm10 cd10 ct10 oc11 kV11 dc11 pm11 cd11 ct11 oc12 kV12 dc12 pm12 cd12 ct12 oc13 kV13 dc13 pm13 cd13 ct13 oc14 kV14 dc14 pm14 cd14 ct14 oc15 kV15 dc15 pm15 cd15 ct15 oc16 kV16 dc16 pm16 cd16 ct16 oc17 kV17 dc17 pm17 cd17 ct17 oc18 kV18 dc18 pm18 cd18 ct18 oc19 kV19 dc19 pm19 cd19 ct19 : Value} {u_MOST_BURST u_MOST_PARTS : Value}
    (a1 : PySem.W.nsIn K mainGlobals "check_rate" = some (some (.ref f_check_rate))) (l1 : K.lookup f_check_rate = some ⟨oc1, od1, .func (PySem.W.fnOf "check_rate" "check_rate" (defArgs s_check) (defBody s_check) (defScope s_check) .none kV1 dc1 pm1 an1 cd1 ct1), sl1⟩) (c1 : PySem.W.codeIn K cd1 "check_rate" = true) (k1 : PySem.W.keepIn K (.ref f_check_rate) = true)
    (a2 : PySem.W.nsIn K mainGlobals "sums_of" = some (some (.ref f_sums_of))) (l2 : K.lookup f_sums_of = some ⟨oc2, od2, .func (PySem.W.fnOf "sums_of" "sums_of" (defArgs s_sums) (defBody s_sums) (defScope s_sums) .none kV2 dc2 pm2 an2 cd2 ct2), sl2⟩) (c2 : PySem.W.codeIn K cd2 "sums_of" = true) (k2 : PySem.W.keepIn K (.ref f_sums_of) = true)
    (a3 : PySem.W.nsIn K mainGlobals "first_break" = some (some (.ref f_first_break))) (l3 : K.lookup f_first_break = some ⟨oc3, od3, .func (PySem.W.fnOf "first_break" "first_break" (defArgs s_break) (defBody s_break) (defScope s_break) .none kV3 dc3 pm3 an3 cd3 ct3), sl3⟩) (c3 : PySem.W.codeIn K cd3 "first_break" = true) (k3 : PySem.W.keepIn K (.ref f_first_break) = true)
    (a4 : PySem.W.nsIn K mainGlobals "_law_cell" = some (some (.ref f__law_cell))) (l4 : K.lookup f__law_cell = some ⟨oc4, od4, .func (PySem.W.fnOf "_law_cell" "_law_cell" (defArgs s_cell) (defBody s_cell) (defScope s_cell) .none kV4 dc4 pm4 an4 cd4 ct4), sl4⟩) (c4 : PySem.W.codeIn K cd4 "_law_cell" = true) (k4 : PySem.W.keepIn K (.ref f__law_cell) = true)
    (a5 : PySem.W.nsIn K mainGlobals "_law_digits" = some (some (.ref f__law_digits))) (l5 : K.lookup f__law_digits = some ⟨oc5, od5, .func (PySem.W.fnOf "_law_digits" "_law_digits" (defArgs s_digits) (defBody s_digits) (defScope s_digits) .none kV5 dc5 pm5 an5 cd5 ct5), sl5⟩) (c5 : PySem.W.codeIn K cd5 "_law_digits" = true) (k5 : PySem.W.keepIn K (.ref f__law_digits) = true)
    (a6 : PySem.W.nsIn K mainGlobals "_law_same" = some (some (.ref f__law_same))) (l6 : K.lookup f__law_same = some ⟨oc6, od6, .func (PySem.W.fnOf "_law_same" "_law_same" (defArgs s_same) (defBody s_same) (defScope s_same) .none kV6 dc6 pm6 an6 cd6 ct6), sl6⟩) (c6 : PySem.W.codeIn K cd6 "_law_same" = true) (k6 : PySem.W.keepIn K (.ref f__law_same) = true)
    (a7 : PySem.W.nsIn K mainGlobals "_law_only" = some (some (.ref f__law_only))) (l7 : K.lookup f__law_only = some ⟨oc7, od7, .func (PySem.W.fnOf "_law_only" "_law_only" (defArgs s_only) (defBody s_only) (defScope s_only) .none kV7 dc7 pm7 an7 cd7 ct7), sl7⟩) (c7 : PySem.W.codeIn K cd7 "_law_only" = true) (k7 : PySem.W.keepIn K (.ref f__law_only) = true)
    (a8 : PySem.W.nsIn K mainGlobals "_law_names" = some (some (.ref f__law_names))) (l8 : K.lookup f__law_names = some ⟨oc8, od8, .func (PySem.W.fnOf "_law_names" "_law_names" (defArgs s_names) (defBody s_names) (defScope s_names) .none kV8 dc8 pm8 an8 cd8 ct8), sl8⟩) (c8 : PySem.W.codeIn K cd8 "_law_names" = true) (k8 : PySem.W.keepIn K (.ref f__law_names) = true)
    (a9 : PySem.W.nsIn K mainGlobals "_law_lowest" = some (some (.ref f__law_lowest))) (l9 : K.lookup f__law_lowest = some ⟨oc9, od9, .func (PySem.W.fnOf "_law_lowest" "_law_lowest" (defArgs s_lowest) (defBody s_lowest) (defScope s_lowest) .none kV9 dc9 pm9 an9 cd9 ct9), sl9⟩) (c9 : PySem.W.codeIn K cd9 "_law_lowest" = true) (k9 : PySem.W.keepIn K (.ref f__law_lowest) = true)
    (a10 : PySem.W.nsIn K mainGlobals "_law_first" = some (some (.ref f__law_first))) (l10 : K.lookup f__law_first = some ⟨oc10, od10, .func (PySem.W.fnOf "_law_first" "_law_first" (defArgs s_first) (defBody s_first) (defScope s_first) .none kV10 dc10 pm10 an10 cd10 ct10), sl10⟩) (c10 : PySem.W.codeIn K cd10 "_law_first" = true) (k10 : PySem.W.keepIn K (.ref f__law_first) = true)
    (a11 : PySem.W.nsIn K mainGlobals "_law_rows" = some (some (.ref f__law_rows))) (l11 : K.lookup f__law_rows = some ⟨oc11, od11, .func (PySem.W.fnOf "_law_rows" "_law_rows" (defArgs s_rows) (defBody s_rows) (defScope s_rows) .none kV11 dc11 pm11 an11 cd11 ct11), sl11⟩) (c11 : PySem.W.codeIn K cd11 "_law_rows" = true) (k11 : PySem.W.keepIn K (.ref f__law_rows) = true)
    (a12 : PySem.W.nsIn K mainGlobals "_law_kept" = some (some (.ref f__law_kept))) (l12 : K.lookup f__law_kept = some ⟨oc12, od12, .func (PySem.W.fnOf "_law_kept" "_law_kept" (defArgs s_kept) (defBody s_kept) (defScope s_kept) .none kV12 dc12 pm12 an12 cd12 ct12), sl12⟩) (c12 : PySem.W.codeIn K cd12 "_law_kept" = true) (k12 : PySem.W.keepIn K (.ref f__law_kept) = true)
    (a13 : PySem.W.nsIn K mainGlobals "_law_slack" = some (some (.ref f__law_slack))) (l13 : K.lookup f__law_slack = some ⟨oc13, od13, .func (PySem.W.fnOf "_law_slack" "_law_slack" (defArgs s_slack) (defBody s_slack) (defScope s_slack) .none kV13 dc13 pm13 an13 cd13 ct13), sl13⟩) (c13 : PySem.W.codeIn K cd13 "_law_slack" = true) (k13 : PySem.W.keepIn K (.ref f__law_slack) = true)
    (a14 : PySem.W.nsIn K mainGlobals "_law_asked" = some (some (.ref f__law_asked))) (l14 : K.lookup f__law_asked = some ⟨oc14, od14, .func (PySem.W.fnOf "_law_asked" "_law_asked" (defArgs s_asked) (defBody s_asked) (defScope s_asked) .none kV14 dc14 pm14 an14 cd14 ct14), sl14⟩) (c14 : PySem.W.codeIn K cd14 "_law_asked" = true) (k14 : PySem.W.keepIn K (.ref f__law_asked) = true)
    (a15 : PySem.W.nsIn K mainGlobals "_law_refuses" = some (some (.ref f__law_refuses))) (l15 : K.lookup f__law_refuses = some ⟨oc15, od15, .func (PySem.W.fnOf "_law_refuses" "_law_refuses" (defArgs s_refuses) (defBody s_refuses) (defScope s_refuses) .none kV15 dc15 pm15 an15 cd15 ct15), sl15⟩) (c15 : PySem.W.codeIn K cd15 "_law_refuses" = true) (k15 : PySem.W.keepIn K (.ref f__law_refuses) = true)
    (a16 : PySem.W.nsIn K mainGlobals "_law_grown" = some (some (.ref f__law_grown))) (l16 : K.lookup f__law_grown = some ⟨oc16, od16, .func (PySem.W.fnOf "_law_grown" "_law_grown" (defArgs s_grown) (defBody s_grown) (defScope s_grown) .none kV16 dc16 pm16 an16 cd16 ct16), sl16⟩) (c16 : PySem.W.codeIn K cd16 "_law_grown" = true) (k16 : PySem.W.keepIn K (.ref f__law_grown) = true)
    (a17 : PySem.W.nsIn K mainGlobals "_law_edges" = some (some (.ref f__law_edges))) (l17 : K.lookup f__law_edges = some ⟨oc17, od17, .func (PySem.W.fnOf "_law_edges" "_law_edges" (defArgs s_edges) (defBody s_edges) (defScope s_edges) .none kV17 dc17 pm17 an17 cd17 ct17), sl17⟩) (c17 : PySem.W.codeIn K cd17 "_law_edges" = true) (k17 : PySem.W.keepIn K (.ref f__law_edges) = true)
    (a18 : PySem.W.nsIn K mainGlobals "_law_again" = some (some (.ref f__law_again))) (l18 : K.lookup f__law_again = some ⟨oc18, od18, .func (PySem.W.fnOf "_law_again" "_law_again" (defArgs s_again) (defBody s_again) (defScope s_again) .none kV18 dc18 pm18 an18 cd18 ct18), sl18⟩) (c18 : PySem.W.codeIn K cd18 "_law_again" = true) (k18 : PySem.W.keepIn K (.ref f__law_again) = true)
    (a19 : PySem.W.nsIn K mainGlobals "law" = some (some (.ref f_law))) (l19 : K.lookup f_law = some ⟨oc19, od19, .func (PySem.W.fnOf "law" "law" (defArgs s_law) (defBody s_law) (defScope s_law) .none kV19 dc19 pm19 an19 cd19 ct19), sl19⟩) (c19 : PySem.W.codeIn K cd19 "law" = true) (k19 : PySem.W.keepIn K (.ref f_law) = true)
    (A_BadNumber : PySem.W.nsIn K mainGlobals "BadNumber" = some (some (.ref C_BadNumber)))
    (xk_BadNumber : PySem.W.keepIn K (.ref C_BadNumber) = true)
    (xs_BadNumber : PySem.W.subIn K (.ref C_BadNumber) (.type "BaseException") = some true)
    (xt_BadNumber : PySem.W.typeIn K (.ref C_BadNumber) = some (.type "type"))
    (xi_BadNumber : PySem.W.isClsIn K C_BadNumber = true)
    (xq_BadNumber : PySem.W.excIn K C_BadNumber [.type "ValueError", .type "Exception", .type "BaseException", .type "object"] "ValueError.__new__" = true)
    (xg_BadNumber : PySem.W.findIn K (.ref C_BadNumber) "__getattribute__" = some (some (.builtin "BaseException.__getattribute__")))
    (xh_BadNumber : PySem.W.findIn K (.ref C_BadNumber) "__getattr__" = some none)
    (xd_BadNumber : PySem.W.hasDictIn K C_BadNumber = true)
    (xa_BadNumber : PySem.W.findIn K (.ref C_BadNumber) "__class__" = some (some (.builtin "object.__class__")))
    (xm_BadNumber : PySem.W.mroIn K C_BadNumber (.type "object") = some true)
    (A_BadCode : PySem.W.nsIn K mainGlobals "BadCode" = some (some (.ref C_BadCode)))
    (A_BadName : PySem.W.nsIn K mainGlobals "BadName" = some (some (.ref C_BadName)))
    (A_BadText : PySem.W.nsIn K mainGlobals "BadText" = some (some (.ref C_BadText)))
    (A_NoRoom : PySem.W.nsIn K mainGlobals "NoRoom" = some (some (.ref C_NoRoom)))
    (A_NotFree : PySem.W.nsIn K mainGlobals "NotFree" = some (some (.ref C_NotFree)))
    (A_StaleKey : PySem.W.nsIn K mainGlobals "StaleKey" = some (some (.ref C_StaleKey)))
    (A_TooMany : PySem.W.nsIn K mainGlobals "TooMany" = some (some (.ref C_TooMany)))
    (A_ShareError : PySem.W.nsIn K mainGlobals "ShareError" = some (some (.ref C_ShareError)))
    (kit_BadNumber_BadCode : PySem.W.kitOne K (.ref C_BadNumber) (.ref C_BadCode) = some false)
    (kit_BadNumber_BadName : PySem.W.kitOne K (.ref C_BadNumber) (.ref C_BadName) = some false)
    (kit_BadNumber_BadNumber : PySem.W.kitOne K (.ref C_BadNumber) (.ref C_BadNumber) = some true)
    (kit_BadNumber_BadText : PySem.W.kitOne K (.ref C_BadNumber) (.ref C_BadText) = some false)
    (kit_BadNumber_NoRoom : PySem.W.kitOne K (.ref C_BadNumber) (.ref C_NoRoom) = some false)
    (kit_BadNumber_NotFree : PySem.W.kitOne K (.ref C_BadNumber) (.ref C_NotFree) = some false)
    (kit_BadNumber_StaleKey : PySem.W.kitOne K (.ref C_BadNumber) (.ref C_StaleKey) = some false)
    (kit_BadNumber_TooMany : PySem.W.kitOne K (.ref C_BadNumber) (.ref C_TooMany) = some false)
    (kit_BadNumber_ShareError : PySem.W.kitOne K (.ref C_BadNumber) (.ref C_ShareError) = some true)
    (kit_BadNumber_TValueError : PySem.W.kitOne K (.ref C_BadNumber) (.type "ValueError") = some true)
    (sub_BadNumber_BadNumber : PySem.W.subIn K (.ref C_BadNumber) (.ref C_BadNumber) = some true)
    (hgt : PySem.W.specialIn K (.builtin "object.__class__") "__get__" = some (some (.builtin "getset_descriptor.__get__"))) (htk : PySem.W.takesIn K (.builtin "object.__class__") = some true)
    (A_MOST_BURST : PySem.W.nsIn K mainGlobals "MOST_BURST" = some (some u_MOST_BURST)) (r_MOST_BURST : RelV (.int 20) u_MOST_BURST)
    (A_MOST_PARTS : PySem.W.nsIn K mainGlobals "MOST_PARTS" = some (some u_MOST_PARTS)) (r_MOST_PARTS : RelV (.int 20) u_MOST_PARTS)
    (z_len : PySem.W.nsIn K mainGlobals "len" = some none)
    (z_int : PySem.W.nsIn K mainGlobals "int" = some none)
    (z_abs : PySem.W.nsIn K mainGlobals "abs" = some none)
    (z_range : PySem.W.nsIn K mainGlobals "range" = some none)
    (z_sum : PySem.W.nsIn K mainGlobals "sum" = some none)
    (z_min : PySem.W.nsIn K mainGlobals "min" = some none)
    (z_max : PySem.W.nsIn K mainGlobals "max" = some none)
    (z_list : PySem.W.nsIn K mainGlobals "list" = some none)
    (z_isinstance : PySem.W.nsIn K mainGlobals "isinstance" = some none)
    (z_bool : PySem.W.nsIn K mainGlobals "bool" = some none)
    (z_str : PySem.W.nsIn K mainGlobals "str" = some none)
    (z_dict : PySem.W.nsIn K mainGlobals "dict" = some none)
    (z_tuple : PySem.W.nsIn K mainGlobals "tuple" = some none)
    (z_ValueError : PySem.W.nsIn K mainGlobals "ValueError" = some none)
    : ∃ fd : FuncData, (∀ (s : Shared) (v : Value), BindsTo s fd ⟨[v], []⟩ [("script", v)]) ∧ ∀ base : Heap, K.In base → base.Ns mainGlobals mg → FnOk l.prog w K mg base CX0 5 fa fd ["script"] (spD K RLaw) := by
  have e := hfa.symm.trans (PySem.W.mg_of X G a19)
  cases e
  have F_check_rate := fun_mk (st := s_check) l1 c1 k1
  have b_check_rate := F_check_rate.binds (ps := ["burst", "rate"]) fun _ _ _ _ _ _ us hl => match us, hl with | [_, _], _ => rfl
  have m_check_rate := PySem.W.mg_of X G a1
  have F_sums_of := fun_mk (st := s_sums) l2 c2 k2
  have b_sums_of := F_sums_of.binds (ps := ["comings", "task"]) fun _ _ _ _ _ _ us hl => match us, hl with | [_, _], _ => rfl
  have m_sums_of := PySem.W.mg_of X G a2
  have F_first_break := fun_mk (st := s_break) l3 c3 k3
  have b_first_break := F_first_break.binds (ps := ["comings", "task", "burst", "rate"]) fun _ _ _ _ _ _ us hl => match us, hl with | [_, _, _, _], _ => rfl
  have m_first_break := PySem.W.mg_of X G a3
  have F__law_cell := fun_mk (st := s_cell) l4 c4 k4
  have b__law_cell := F__law_cell.binds (ps := ["script", "k"]) fun _ _ _ _ _ _ us hl => match us, hl with | [_, _], _ => rfl
  have m__law_cell := PySem.W.mg_of X G a4
  have F__law_digits := fun_mk (st := s_digits) l5 c5 k5
  have b__law_digits := F__law_digits.binds (ps := ["cell", "sizes", "salt"]) fun _ _ _ _ _ _ us hl => match us, hl with | [_, _, _], _ => rfl
  have m__law_digits := PySem.W.mg_of X G a5
  have F__law_same := fun_mk (st := s_same) l6 c6 k6
  have b__law_same := F__law_same.binds (ps := ["got", "due"]) fun _ _ _ _ _ _ us hl => match us, hl with | [_, _], _ => rfl
  have m__law_same := PySem.W.mg_of X G a6
  have F__law_only := fun_mk (st := s_only) l7 c7 k7
  have b__law_only := F__law_only.binds (ps := ["e", "word"]) fun _ _ _ _ _ _ us hl => match us, hl with | [_, _], _ => rfl
  have m__law_only := PySem.W.mg_of X G a7
  have F__law_names := fun_mk (st := s_names) l8 c8 k8
  have b__law_names := F__law_names.binds (ps := ["cell", "many"]) fun _ _ _ _ _ _ us hl => match us, hl with | [_, _], _ => rfl
  have m__law_names := PySem.W.mg_of X G a8
  have F__law_lowest := fun_mk (st := s_lowest) l9 c9 k9
  have b__law_lowest := F__law_lowest.binds (ps := ["n", "d"]) fun _ _ _ _ _ _ us hl => match us, hl with | [_, _], _ => rfl
  have m__law_lowest := PySem.W.mg_of X G a9
  have F__law_first := fun_mk (st := s_first) l10 c10 k10
  have b__law_first := F__law_first.binds (ps := ["rows", "task", "burst", "rate"]) fun _ _ _ _ _ _ us hl => match us, hl with | [_, _, _, _], _ => rfl
  have m__law_first := PySem.W.mg_of X G a10
  have F__law_rows := fun_mk (st := s_rows) l11 c11 k11
  have b__law_rows := F__law_rows.binds (ps := ["script", "names", "head"]) fun _ _ _ _ _ _ us hl => match us, hl with | [_, _, _], _ => rfl
  have m__law_rows := PySem.W.mg_of X G a11
  have F__law_kept := fun_mk (st := s_kept) l12 c12 k12
  have b__law_kept := F__law_kept.binds (ps := ["script", "names", "burst", "rate"]) fun _ _ _ _ _ _ us hl => match us, hl with | [_, _, _, _], _ => rfl
  have m__law_kept := PySem.W.mg_of X G a12
  have F__law_slack := fun_mk (st := s_slack) l13 c13 k13
  have b__law_slack := F__law_slack.binds (ps := ["rows", "task", "burst", "rate", "tick"]) fun _ _ _ _ _ _ us hl => match us, hl with | [_, _, _, _, _], _ => rfl
  have m__law_slack := PySem.W.mg_of X G a13
  have F__law_asked := fun_mk (st := s_asked) l14 c14 k14
  have b__law_asked := F__law_asked.binds (ps := ["rows", "task", "burst", "rate"]) fun _ _ _ _ _ _ us hl => match us, hl with | [_, _, _, _], _ => rfl
  have m__law_asked := PySem.W.mg_of X G a14
  have F__law_refuses := fun_mk (st := s_refuses) l15 c15 k15
  have b__law_refuses := F__law_refuses.binds (ps := ["rows", "task", "burst", "rate"]) fun _ _ _ _ _ _ us hl => match us, hl with | [_, _, _, _], _ => rfl
  have m__law_refuses := PySem.W.mg_of X G a15
  have F__law_grown := fun_mk (st := s_grown) l16 c16 k16
  have b__law_grown := F__law_grown.binds (ps := ["rows", "at", "more"]) fun _ _ _ _ _ _ us hl => match us, hl with | [_, _, _], _ => rfl
  have m__law_grown := PySem.W.mg_of X G a16
  have F__law_edges := fun_mk (st := s_edges) l17 c17 k17
  have b__law_edges := F__law_edges.binds (ps := ["script", "names", "burst", "rate"]) fun _ _ _ _ _ _ us hl => match us, hl with | [_, _, _, _], _ => rfl
  have m__law_edges := PySem.W.mg_of X G a17
  have F__law_again := fun_mk (st := s_again) l18 c18 k18
  have b__law_again := F__law_again.binds (ps := ["rows", "task", "burst", "rate", "at"]) fun _ _ _ _ _ _ us hl => match us, hl with | [_, _, _, _, _], _ => rfl
  have m__law_again := PySem.W.mg_of X G a18
  have F_law := fun_mk (st := s_law) l19 c19 k19
  have b_law := F_law.binds (ps := ["script"]) fun _ _ _ _ _ _ us hl => match us, hl with | [_], _ => rfl
  have m_law := PySem.W.mg_of X G a19
  have g_BadNumber := PySem.W.mg_of X G A_BadNumber
  have g_BadCode := PySem.W.mg_of X G A_BadCode
  have g_BadName := PySem.W.mg_of X G A_BadName
  have g_BadText := PySem.W.mg_of X G A_BadText
  have g_NoRoom := PySem.W.mg_of X G A_NoRoom
  have g_NotFree := PySem.W.mg_of X G A_NotFree
  have g_StaleKey := PySem.W.mg_of X G A_StaleKey
  have g_TooMany := PySem.W.mg_of X G A_TooMany
  have g_ShareError := PySem.W.mg_of X G A_ShareError
  have g_MOST_BURST := PySem.W.mg_of X G A_MOST_BURST
  have g_MOST_PARTS := PySem.W.mg_of X G A_MOST_PARTS
  have n_len := PySem.W.mg_none_of X G z_len
  have n_int := PySem.W.mg_none_of X G z_int
  have n_abs := PySem.W.mg_none_of X G z_abs
  have n_range := PySem.W.mg_none_of X G z_range
  have n_sum := PySem.W.mg_none_of X G z_sum
  have n_min := PySem.W.mg_none_of X G z_min
  have n_max := PySem.W.mg_none_of X G z_max
  have n_list := PySem.W.mg_none_of X G z_list
  have n_isinstance := PySem.W.mg_none_of X G z_isinstance
  have n_bool := PySem.W.mg_none_of X G z_bool
  have n_str := PySem.W.mg_none_of X G z_str
  have n_dict := PySem.W.mg_none_of X G z_dict
  have n_tuple := PySem.W.mg_none_of X G z_tuple
  have n_ValueError := PySem.W.mg_none_of X G z_ValueError
  refine ⟨PySem.W.fnOf "law" "law" (defArgs s_law) (defBody s_law) (defScope s_law) .none kV19 dc19 pm19 an19 cd19 ct19, fun s v => .of_eq rfl, fun base _ _ => ?_⟩
  have T1 : Txt K mg := ⟨n_len, n_int, n_abs, n_range⟩
  have T2 : Txt2 K mg := ⟨T1, n_sum, n_min, n_max, n_list⟩
  have TI : TxtI K mg := ⟨n_len, n_range, n_isinstance, n_int, n_bool, n_str, n_dict, n_tuple, n_list⟩
  have TE : TxtE K mg "BadNumber" C_BadNumber := ⟨n_range, n_isinstance, n_ValueError, ⟨xg_BadNumber, xh_BadNumber, xs_BadNumber, xd_BadNumber, xa_BadNumber, hgt, htk, xm_BadNumber⟩, (by
    intro x hx
    simp only [kindNames, List.mem_cons, List.not_mem_nil, or_false] at hx
    rcases hx with rfl | rfl | rfl | rfl | rfl | rfl | rfl | rfl
    · exact ⟨_, g_BadCode, kit_BadNumber_BadCode.trans (by decide +kernel)⟩
    · exact ⟨_, g_BadName, kit_BadNumber_BadName.trans (by decide +kernel)⟩
    · exact ⟨_, g_BadNumber, kit_BadNumber_BadNumber.trans (by decide +kernel)⟩
    · exact ⟨_, g_BadText, kit_BadNumber_BadText.trans (by decide +kernel)⟩
    · exact ⟨_, g_NoRoom, kit_BadNumber_NoRoom.trans (by decide +kernel)⟩
    · exact ⟨_, g_NotFree, kit_BadNumber_NotFree.trans (by decide +kernel)⟩
    · exact ⟨_, g_StaleKey, kit_BadNumber_StaleKey.trans (by decide +kernel)⟩
    · exact ⟨_, g_TooMany, kit_BadNumber_TooMany.trans (by decide +kernel)⟩), ⟨_, g_ShareError, kit_BadNumber_ShareError⟩, kit_BadNumber_TValueError⟩
  have TB : TxtB K mg C_BadNumber _ := ⟨PySem.F.excBase_ValueError, ⟨xq_BadNumber, xk_BadNumber, xs_BadNumber, xt_BadNumber⟩, g_BadNumber, ⟨_, g_MOST_BURST, r_MOST_BURST⟩, ⟨_, g_MOST_PARTS, r_MOST_PARTS⟩⟩
  have GC := ok_cell (P := l.prog) (w := w) (base := base) F__law_cell T1
  have GD := ok_digits (P := l.prog) (w := w) (base := base) F__law_digits T1
  have Dg : Dig l.prog w K mg base _ _ _ _ := ⟨GC, b__law_cell, m__law_cell, F__law_cell.kp, GD, b__law_digits, m__law_digits, F__law_digits.kp⟩
  have GN := ok_names (P := l.prog) (w := w) (base := base) F__law_names T1 GD b__law_digits m__law_digits F__law_digits.kp
  have GW := ok_lowest (P := l.prog) (w := w) (base := base) F__law_lowest T1
  have GF := ok_first (P := l.prog) (w := w) (base := base) F__law_first T2
  have GR := ok_rows F__law_rows T2 Dg
  have GGr := ok_grown (P := l.prog) (w := w) (base := base) F__law_grown T2
  have Gc := ok_check (P := l.prog) (w := w) (base := base) F_check_rate TB
  have TK : TxtK l.prog w K mg base C_BadNumber _ _ _ _ := ⟨Gc, b_check_rate, m_check_rate, F_check_rate.kp, fun rs task h1 h2 => ok_sums F_sums_of T2 rs task h1 h2, b_sums_of, m_sums_of, F_sums_of.kp⟩
  have GB := ok_break F_first_break T2 TK
  have GS := ok_same (P := l.prog) (w := w) (base := base) F__law_same b__law_same TI m__law_same
  have L : LawT l.prog w K mg base C_BadNumber _ _ _ _ _ _ := ⟨GB, b_first_break, m_first_break, F_first_break.kp, GF, b__law_first, m__law_first, F__law_first.kp, GS, b__law_same, m__law_same, F__law_same.kp⟩
  have Oy : OnlyT l.prog w K mg base C_BadNumber C_ShareError _ _ := ⟨fun a oe hz hv => ok_onlyP F__law_only TE hz hv, b__law_only, m__law_only, F__law_only.kp, g_BadNumber, g_ShareError, exm_of xs_BadNumber xi_BadNumber xt_BadNumber sub_BadNumber_BadNumber⟩
  have GA := ok_asked F__law_asked T2 L
  have GX := ok_refuses F__law_refuses T2 L Oy
  have GG := ok_again F__law_again T2 L
  have Ed : EdgT l.prog w K mg base _ _ _ _ _ _ _ _ := ⟨GA, b__law_asked, m__law_asked, F__law_asked.kp, fun ns names task burst rn rd h1 h2 h3 h4 h5 h6 h7 => ok_kept F__law_kept T2 Dg ns names task burst rn rd h1 h2 h3 h4 h5 h6 h7, b__law_kept, m__law_kept, F__law_kept.kp,
    fun rs task burst rn rd tau h1 h2 h3 h4 h5 h6 h7 h8 h9 => ok_slack F__law_slack T2 rs task burst rn rd tau h1 h2 h3 h4 h5 h6 h7 h8 h9, b__law_slack, m__law_slack, F__law_slack.kp, GGr, b__law_grown, m__law_grown, F__law_grown.kp⟩
  have GE := ok_edges F__law_edges T2 L Ed Dg
  have Tp : TopT l.prog w K mg base _ _ _ _ _ _ _ _ _ _ _ _ := ⟨GN, b__law_names, m__law_names, F__law_names.kp, GW, b__law_lowest, m__law_lowest, F__law_lowest.kp, GR, b__law_rows, m__law_rows, F__law_rows.kp, GX, b__law_refuses, m__law_refuses, F__law_refuses.kp, GG, b__law_again, m__law_again, F__law_again.kp, GE, b__law_edges, m__law_edges, F__law_edges.kp⟩
  exact ok_law F_law T2 Ed Dg Tp
theorem walk {l : PySem.W.OpenLaw} {q : Program} {loose : List Str} {XP : (Str → Option Value) → Heap → Prop} {YP : World → Heap → Prop} {d : DefRec} {K : Params → PySem.W.Frag} (hn : l.most = some 63) (hdf : d.params.defaults = [])
    (hY : ∀ (w : World) (h : Heap), YP w h → (K w.params).In h)
    (F : ∀ (w : World) (mg : Str → Option Value) (fa : Addr) (h : Heap), (K w.params).In h → h.Ns mainGlobals mg → mg d.name = some (.ref fa) →
      ∃ fd : FuncData, (∀ (s : Shared) (u : Value), BindsTo s fd ⟨[u], []⟩ [("script", u)]) ∧ ∀ base : Heap, (K w.params).In base → base.Ns mainGlobals mg → FnOk l.prog w (K w.params) mg base CX0 5 fa fd ["script"] (spD (K w.params) RLaw)) :
    PySem.W.WalkO q loose XP YP l.row.toRowW d [] (fun f vs => PySem.call f vs) :=
  L2.walk_of (n := 63) (k := 5) (x := "script") (CX := fun _ => CX0) (sp := fun w => spD (K w.params) RLaw) hn (by decide) hdf ⟨rfl, by decide, by decide⟩ hY F
    (fun w H a ns hl _ hS => ⟨[], [.lst (ns.map .int)], .val (.bl true), (fun b hb => nomatch hb), .one (.lst (by rw [off_nil]; exact hS) (DRs.of_ints ns)), ⟨ns, rfl, rfl⟩, fun v H' _ r => by cases r; rfl⟩) fun _ _ _ _ _ z => z
end K47

open PySem PySem.W PyProof.Rows in
set_option maxRecDepth 100000 in
set_option maxHeartbeats 0 in
theorem PySem.Challenge.cw_eachitsshare_k47_first_break_told_holds : PySem.Challenge.rw_eachitsshare_k47_first_break_told.Holds := by
  w_on; o_law; k_head; (case hw => w_witness2)
  k_fill
  refine K47.walk (l := PySem.Challenge.rw_eachitsshare_k47_first_break_told) rfl rfl (fun w h Y => PySem.W.kIn_of Y) ?F
  case F =>
    intro w mg fa h KX G hmg
    refine' K47.all_mk KX G hmg ?a1 ?l1 ?c1 ?k1 ?a2 ?l2 ?c2 ?k2 ?a3 ?l3 ?c3 ?k3 ?a4 ?l4 ?c4 ?k4 ?a5 ?l5 ?c5 ?k5 ?a6 ?l6 ?c6 ?k6 ?a7 ?l7 ?c7 ?k7 ?a8 ?l8 ?c8 ?k8 ?a9 ?l9 ?c9 ?k9 ?a10 ?l10 ?c10 ?k10 ?a11 ?l11 ?c11 ?k11 ?a12 ?l12 ?c12 ?k12 ?a13 ?l13 ?c13 ?k13 ?a14 ?l14 ?c14 ?k14 ?a15 ?l15 ?c15 ?k15 ?a16 ?l16 ?c16 ?k16 ?a17 ?l17 ?c17 ?k17 ?a18 ?l18 ?c18 ?k18 ?a19 ?l19 ?c19 ?k19 ?A_BadNumber ?xk_BadNumber ?xs_BadNumber ?xt_BadNumber ?xi_BadNumber ?xq_BadNumber ?xg_BadNumber ?xh_BadNumber ?xd_BadNumber ?xa_BadNumber ?xm_BadNumber ?A_BadCode ?A_BadName ?A_BadText ?A_NoRoom ?A_NotFree ?A_StaleKey ?A_TooMany ?A_ShareError ?kit_BadNumber_BadCode ?kit_BadNumber_BadName ?kit_BadNumber_BadNumber ?kit_BadNumber_BadText ?kit_BadNumber_NoRoom ?kit_BadNumber_NotFree ?kit_BadNumber_StaleKey ?kit_BadNumber_TooMany ?kit_BadNumber_ShareError ?kit_BadNumber_TValueError ?sub_BadNumber_BadNumber ?hgt ?htk ?A_MOST_BURST ?r_MOST_BURST ?A_MOST_PARTS ?r_MOST_PARTS ?z_len ?z_int ?z_abs ?z_range ?z_sum ?z_min ?z_max ?z_list ?z_isinstance ?z_bool ?z_str ?z_dict ?z_tuple ?z_ValueError
    (case A_BadNumber => k_is)
    (case A_BadCode => k_is)
    (case A_BadName => k_is)
    (case A_BadText => k_is)
    (case A_NoRoom => k_is)
    (case A_NotFree => k_is)
    (case A_StaleKey => k_is)
    (case A_TooMany => k_is)
    (case A_ShareError => k_is)
    (case a1 => k_is)
    (case l1 => k_is)
    (case c1 => k_is)
    (case k1 => k_is)
    (case a2 => k_is)
    (case l2 => k_is)
    (case c2 => k_is)
    (case k2 => k_is)
    (case a3 => k_is)
    (case l3 => k_is)
    (case c3 => k_is)
    (case k3 => k_is)
    (case a4 => k_is)
    (case l4 => k_is)
    (case c4 => k_is)
    (case k4 => k_is)
    (case a5 => k_is)
    (case l5 => k_is)
    (case c5 => k_is)
    (case k5 => k_is)
    (case a6 => k_is)
    (case l6 => k_is)
    (case c6 => k_is)
    (case k6 => k_is)
    (case a7 => k_is)
    (case l7 => k_is)
    (case c7 => k_is)
    (case k7 => k_is)
    (case a8 => k_is)
    (case l8 => k_is)
    (case c8 => k_is)
    (case k8 => k_is)
    (case a9 => k_is)
    (case l9 => k_is)
    (case c9 => k_is)
    (case k9 => k_is)
    (case a10 => k_is)
    (case l10 => k_is)
    (case c10 => k_is)
    (case k10 => k_is)
    (case a11 => k_is)
    (case l11 => k_is)
    (case c11 => k_is)
    (case k11 => k_is)
    (case a12 => k_is)
    (case l12 => k_is)
    (case c12 => k_is)
    (case k12 => k_is)
    (case a13 => k_is)
    (case l13 => k_is)
    (case c13 => k_is)
    (case k13 => k_is)
    (case a14 => k_is)
    (case l14 => k_is)
    (case c14 => k_is)
    (case k14 => k_is)
    (case a15 => k_is)
    (case l15 => k_is)
    (case c15 => k_is)
    (case k15 => k_is)
    (case a16 => k_is)
    (case l16 => k_is)
    (case c16 => k_is)
    (case k16 => k_is)
    (case a17 => k_is)
    (case l17 => k_is)
    (case c17 => k_is)
    (case k17 => k_is)
    (case a18 => k_is)
    (case l18 => k_is)
    (case c18 => k_is)
    (case k18 => k_is)
    (case a19 => k_is)
    (case l19 => k_is)
    (case c19 => k_is)
    (case k19 => k_is)
    (case xk_BadNumber => k_is)
    (case xs_BadNumber => k_is)
    (case xt_BadNumber => k_is)
    (case xi_BadNumber => k_is)
    (case xq_BadNumber => k_exc)
    (case xg_BadNumber => k_is)
    (case xh_BadNumber => k_is)
    (case xd_BadNumber => k_is)
    (case xa_BadNumber => k_is)
    (case xm_BadNumber => k_is)
    (case kit_BadNumber_BadCode => kit_is)
    (case kit_BadNumber_BadName => kit_is)
    (case kit_BadNumber_BadNumber => kit_is)
    (case kit_BadNumber_BadText => kit_is)
    (case kit_BadNumber_NoRoom => kit_is)
    (case kit_BadNumber_NotFree => kit_is)
    (case kit_BadNumber_StaleKey => kit_is)
    (case kit_BadNumber_TooMany => kit_is)
    (case kit_BadNumber_ShareError => kit_is)
    (case kit_BadNumber_TValueError => kit_is)
    (case sub_BadNumber_BadNumber => first | rfl | k_is)
    (case hgt => k_is)
    (case htk => k_is)
    (case A_MOST_BURST => k_is)
    (case r_MOST_BURST => exact ⟨_, rfl⟩)
    (case A_MOST_PARTS => k_is)
    (case r_MOST_PARTS => exact ⟨_, rfl⟩)
    (case z_len => k_is)
    (case z_int => k_is)
    (case z_abs => k_is)
    (case z_range => k_is)
    (case z_sum => k_is)
    (case z_min => k_is)
    (case z_max => k_is)
    (case z_list => k_is)
    (case z_isinstance => k_is)
    (case z_bool => k_is)
    (case z_str => k_is)
    (case z_dict => k_is)
    (case z_tuple => k_is)
    (case z_ValueError => k_is)
