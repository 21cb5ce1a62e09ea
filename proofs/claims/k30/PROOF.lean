import PyProof.Rows.All
import Wide.All
import OpenK.AllK
import Wide.FinOn
import HandS.ForMost
import HandS.ForExc
import HandS.TryMany
import HandS.ExcIs
import HandS.IsInst
import HandS.Deep
import HandS.Flow
import KE.Datum
import HandS.HotCalls
import HandS.SortKw
import KE.DataMinMax
import HandS.Style
import HandS.SortInts
import HandS.SortRule
import HandS.More
import HandS.Iter
import HandS.Zip
import PySem.Challenge.RW_eachitsshare_k30_window_judges_exact
set_option Elab.async false
set_option linter.all false
set_option maxRecDepth 100000
/-! DL1: values as data (D), how the heap bears them, the state of a def by slots, expressions and statements by data. -/
namespace DL
open PySem PySem.Spec PyProof.Rows L2

/-- a value as data -/
inductive D where
  | non | bl (b : Bool) | int (i : Int) | str (s : Str) | ty (n : String) | opq (a : Addr)
  | lst (xs : List D) | tup (xs : List D) | dic (kvs : List (Key × D)) | obj (C : Addr) (fs : List (Str × D)) | exc (C : Addr) (fs : Option (List (Str × D)))
instance : Inhabited D := ⟨.non⟩

/-- an exception in hand, known by its object -/
def xo (oe : Obj) (a : Addr) : HO := .frz oe (.ext fun h => h.get? a = some oe)
mutual
/-- the value v bears the data d -/
inductive DR (K : PySem.W.Frag) (H : Hp) : V → D → Prop
  | non : DR K H .non .non
  | bl (b : Bool) : DR K H (.bl b) (.bl b)
  | int (i : Int) : DR K H (.int i) (.int i)
  | str (x : Str) : DR K H (.str x) (.str x)
  | ty (n : String) : DR K H (.ty n) (.ty n)
  | opq (a : Addr) : DR K H (.ref a) (.opq a)
  | lst {a : Addr} {xs : List V} {ds : List D} : SqL K H a xs → DRs K H xs ds → DR K H (.ref a) (.lst ds)
  | tup {a : Addr} {xs : List V} {ds : List D} : SqT K H a xs → DRs K H xs ds → DR K H (.ref a) (.tup ds)
  | dic {a : Addr} {kvs : List (Key × V)} {ks : List (Key × D)} : H a = some (.dK kvs) → DRk K H kvs ks → DR K H (.ref a) (.dic ks)
  | obj {a C dx : Addr} {fs : List (Str × V)} {gs : List (Str × D)} : H a = some (.ins C dx fs) → DRf K H fs gs → DR K H (.ref a) (.obj C gs)
  | exc0 {a C : Addr} {oe : Obj} : H a = some (xo oe a) → oe.cls = .ref C → oe.dict = none → (∃ vs, oe.data = .fields vs) → DR K H (.ref a) (.exc C none)
  | excD {a C d : Addr} {oe : Obj} {fs : List (Str × V)} {gs : List (Str × D)} : H a = some (xo oe a) → oe.cls = .ref C → oe.dict = some d → (∃ vs, oe.data = .fields vs) → H d = some (.xd fs) → DRf K H fs gs → DR K H (.ref a) (.exc C (some gs))
inductive DRs (K : PySem.W.Frag) (H : Hp) : List V → List D → Prop
  | nil : DRs K H [] []
  | cons {v : V} {vs : List V} {d : D} {ds : List D} : DR K H v d → DRs K H vs ds → DRs K H (v :: vs) (d :: ds)
inductive DRk (K : PySem.W.Frag) (H : Hp) : List (Key × V) → List (Key × D) → Prop
  | nil : DRk K H [] []
  | cons {k : Key} {v : V} {vs : List (Key × V)} {d : D} {ds : List (Key × D)} : DR K H v d → DRk K H vs ds → DRk K H ((k, v) :: vs) ((k, d) :: ds)
inductive DRf (K : PySem.W.Frag) (H : Hp) : List (Str × V) → List (Str × D) → Prop
  | nil : DRf K H [] []
  | cons {k : Str} {v : V} {vs : List (Str × V)} {d : D} {ds : List (Str × D)} : DR K H v d → DRf K H vs ds → DRf K H ((k, v) :: vs) ((k, d) :: ds)
end

section
variable {K : PySem.W.Frag} {H H' : Hp}
theorem rd_mono {a : Addr} {u : HO} (s : Same H H') (r : Rd H a u) : Rd H' a u := by
  rcases r with r | ⟨o, r⟩
  · exact .inl (s _ _ r)
  · exact .inr ⟨o, s _ _ r⟩
theorem sqt_mono {a : Addr} {xs : List V} (s : Same H H') (h : SqT K H a xs) : SqT K H' a xs := by
  rcases h with h | h
  · exact .inl (rd_mono s h)
  · exact .inr h
mutual
theorem DR.mono (s : Same H H') : ∀ {v : V} {d : D}, DR K H v d → DR K H' v d
  | _, _, .non => .non
  | _, _, .bl b => .bl b
  | _, _, .int i => .int i
  | _, _, .str x => .str x
  | _, _, .ty n => .ty n
  | _, _, .opq a => .opq a
  | _, _, .lst h r => .lst (s.seq h) (DRs.mono s r)
  | _, _, .tup h r => .tup (sqt_mono s h) (DRs.mono s r)
  | _, _, .dic h r => .dic (s _ _ h) (DRk.mono s r)
  | _, _, .obj h r => .obj (s _ _ h) (DRf.mono s r)
  | _, _, .exc0 h a b c => .exc0 (s _ _ h) a b c
  | _, _, .excD h a b c e r => .excD (s _ _ h) a b c (s _ _ e) (DRf.mono s r)
theorem DRs.mono (s : Same H H') : ∀ {vs : List V} {ds : List D}, DRs K H vs ds → DRs K H' vs ds
  | _, _, .nil => .nil
  | _, _, .cons h r => .cons (DR.mono s h) (DRs.mono s r)
theorem DRk.mono (s : Same H H') : ∀ {vs : List (Key × V)} {ds : List (Key × D)}, DRk K H vs ds → DRk K H' vs ds
  | _, _, .nil => .nil
  | _, _, .cons h r => .cons (DR.mono s h) (DRk.mono s r)
theorem DRf.mono (s : Same H H') : ∀ {vs : List (Str × V)} {ds : List (Str × D)}, DRf K H vs ds → DRf K H' vs ds
  | _, _, .nil => .nil
  | _, _, .cons h r => .cons (DR.mono s h) (DRf.mono s r)
end
theorem DRs.length {vs : List V} {ds : List D} (h : DRs K H vs ds) : vs.length = ds.length := by
  induction ds generalizing vs with
  | nil => cases h; rfl
  | cons d ds ih => cases h with | cons _ r => simp [ih r]
theorem DRs.get {vs : List V} {ds : List D} (h : DRs K H vs ds) : ∀ (i : Nat) {d : D}, ds[i]? = some d → ∃ v, vs[i]? = some v ∧ DR K H v d := by
  induction ds generalizing vs with
  | nil => intro i d e; simp at e
  | cons d ds ih =>
    cases h with
    | cons h1 r =>
      intro i d' e
      cases i with
      | zero => simp at e; subst e; exact ⟨_, rfl, h1⟩
      | succ i => simp at e; simpa using ih r i e
theorem DRs.get' {vs : List V} {ds : List D} (h : DRs K H vs ds) (i : Nat) {v : V} (e : vs[i]? = some v) : ∃ d, ds[i]? = some d ∧ DR K H v d := by
  have hl := h.length
  have hi : i < vs.length := (List.getElem?_eq_some_iff.mp e).1
  obtain ⟨v', e', r⟩ := h.get i (d := ds[i]'(by omega)) (List.getElem?_eq_getElem (by omega))
  rw [e] at e'; cases e'
  exact ⟨_, List.getElem?_eq_getElem (by omega), r⟩
theorem DRs.append {vs ws : List V} {ds es : List D} (h : DRs K H vs ds) (h' : DRs K H ws es) : DRs K H (vs ++ ws) (ds ++ es) := by
  induction ds generalizing vs with
  | nil => cases h; exact h'
  | cons d ds ih => cases h with | cons h1 r => exact .cons h1 (ih r)
theorem DRs.take {vs : List V} {ds : List D} (h : DRs K H vs ds) (n : Nat) : DRs K H (vs.take n) (ds.take n) := by
  induction ds generalizing vs n with
  | nil => cases h; simp; exact .nil
  | cons d ds ih => cases h with | cons h1 r => cases n with
    | zero => exact .nil
    | succ n => exact .cons h1 (ih r n)
theorem DRs.drop {vs : List V} {ds : List D} (h : DRs K H vs ds) (n : Nat) : DRs K H (vs.drop n) (ds.drop n) := by
  induction ds generalizing vs n with
  | nil => cases h; simp; exact .nil
  | cons d ds ih => cases h with | cons h1 r => cases n with
    | zero => exact .cons h1 r
    | succ n => exact ih r n
theorem DRs.set {vs : List V} {ds : List D} {v : V} {d : D} (h : DRs K H vs ds) (r : DR K H v d) (n : Nat) : DRs K H (vs.set n v) (ds.set n d) := by
  induction ds generalizing vs n with
  | nil => cases h; exact .nil
  | cons d' ds ih => cases h with | cons h1 q => cases n with
    | zero => exact .cons r q
    | succ n => exact .cons h1 (ih q n)
theorem DRs.one {v : V} {d : D} (r : DR K H v d) : DRs K H [v] [d] := .cons r .nil
theorem DRs.inv1 {vs : List V} {d : D} (h : DRs K H vs [d]) : ∃ v, vs = [v] ∧ DR K H v d := by
  cases h with | cons h1 r => cases r; exact ⟨_, rfl, h1⟩
theorem DRs.inv2 {vs : List V} {d e : D} (h : DRs K H vs [d, e]) : ∃ v w, vs = [v, w] ∧ DR K H v d ∧ DR K H w e := by
  cases h with | cons h1 r => cases r with | cons h2 r => cases r; exact ⟨_, _, rfl, h1, h2⟩
theorem DRs.ints {vs : List V} {ns : List Int} (h : DRs K H vs (ns.map D.int)) : vs = ns.map V.int := by
  induction ns generalizing vs with
  | nil => cases h; rfl
  | cons n ns ih => cases h with | cons h1 r => cases h1; rw [ih r]; rfl
theorem DRs.of_ints (ns : List Int) : DRs K H (ns.map V.int) (ns.map D.int) := by
  induction ns with
  | nil => exact .nil
  | cons n ns ih => exact .cons (.int n) ih
theorem DRs.strs {vs : List V} {ns : List Str} (h : DRs K H vs (ns.map D.str)) : vs = ns.map V.str := by
  induction ns generalizing vs with
  | nil => cases h; rfl
  | cons n ns ih => cases h with | cons h1 r => cases h1; rw [ih r]; rfl
theorem DRs.of_strs (ns : List Str) : DRs K H (ns.map V.str) (ns.map D.str) := by
  induction ns with
  | nil => exact .nil
  | cons n ns ih => exact .cons (.str n) ih
theorem DRs.bls {vs : List V} {ns : List Bool} (h : DRs K H vs (ns.map D.bl)) : vs = ns.map V.bl := by
  induction ns generalizing vs with
  | nil => cases h; rfl
  | cons n ns ih => cases h with | cons h1 r => cases h1; rw [ih r]; rfl
end

/-! ### the heap without what is owned -/
def off (Z : List Addr) (H : Hp) : Hp := fun b => if b ∈ Z then none else H b
theorem off_nil {H : Hp} : off [] H = H := by funext b; simp [off]
theorem off_ne {Z : List Addr} {H : Hp} {b : Addr} (h : b ∉ Z) : off Z H b = H b := by unfold off; rw [if_neg h]
theorem off_in {Z : List Addr} {H : Hp} {b : Addr} (h : b ∈ Z) : off Z H b = none := by unfold off; rw [if_pos h]
theorem off_same {Z : List Addr} {H H' : Hp} (s : Same H H') : Same (off Z H) (off Z H') := fun b o e => by
  by_cases h : b ∈ Z
  · rw [off_in h] at e; cases e
  · rw [off_ne h] at e ⊢; exact s b o e
theorem off_sub {Y Z : List Addr} {H : Hp} (h : ∀ b ∈ Y, b ∈ Z) : Same (off Z H) (off Y H) := fun b o e => by
  by_cases hz : b ∈ Z
  · rw [off_in hz] at e; cases e
  · rw [off_ne hz] at e
    rw [off_ne fun q => hz (h b q)]; exact e
theorem off_le {Z : List Addr} {H : Hp} : Same (off Z H) H := fun b o e => by
  by_cases hz : b ∈ Z
  · rw [off_in hz] at e; cases e
  · rw [off_ne hz] at e; exact e
theorem off_upd_in {Z : List Addr} {H : Hp} {a : Addr} {o : HO} (h : a ∈ Z) : off Z (upd H a o) = off Z H := by
  funext b
  by_cases hz : b ∈ Z
  · rw [off_in hz, off_in hz]
  · rw [off_ne hz, off_ne hz, upd_ne]
    intro q; subst q; exact hz h
theorem same_upd {H : Hp} {a : Addr} {o : HO} (h : H a = none) : Same H (upd H a o) := fun b u e => by
  rw [upd_ne (ne_of_none e h)]; exact e
/-- the addresses of Z are there -/
def Al (Z : List Addr) (H : Hp) : Prop := ∀ b ∈ Z, H b ≠ none
theorem Al.mono {Z : List Addr} {H H' : Hp} (a : Al Z H) (s : Same H H') : Al Z H' := fun b hb => by
  have := a b hb
  cases e : H b with
  | none => exact absurd e this
  | some o => rw [s b o e]; intro q; cases q
theorem Al.new {Z : List Addr} {H : Hp} {p : Addr} (a : Al Z H) (h : H p = none) : p ∉ Z := fun hb => a p hb h

/-! ### what is owned -/
inductive MO where
  | lst (ds : List D) | dic (kvs : List (Key × D)) | exc (C : Addr) (fs : Option (List (Str × D)))
def MO.d : MO → D
  | .lst ds => .lst ds
  | .dic kvs => .dic kvs
  | .exc C fs => .exc C fs
inductive MR (K : PySem.W.Frag) (G : Hp) : Addr → HO → MO → Prop
  | lst {a : Addr} {vs : List V} {ds : List D} : DRs K G vs ds → MR K G a (.lst vs) (.lst ds)
  | dic {a : Addr} {vs : List (Key × V)} {ds : List (Key × D)} : DRk K G vs ds → MR K G a (.dK vs) (.dic ds)
  | exc0 {a C : Addr} {oe : Obj} : oe.cls = .ref C → oe.dict = none → (∃ vs, oe.data = .fields vs) → MR K G a (xo oe a) (.exc C none)
  | excD {a C d : Addr} {oe : Obj} {fs : List (Str × V)} {gs : List (Str × D)} : oe.cls = .ref C → oe.dict = some d → (∃ vs, oe.data = .fields vs) → G d = some (.xd fs) → DRf K G fs gs → MR K G a (xo oe a) (.exc C (some gs))
theorem MR.mono {K : PySem.W.Frag} {G G' : Hp} {a : Addr} {o : HO} {m : MO} (s : Same G G') (h : MR K G a o m) : MR K G' a o m := by
  cases h with
  | lst r => exact .lst (r.mono s)
  | dic r => exact .dic (r.mono s)
  | exc0 a b c => exact .exc0 a b c
  | excD a b c d r => exact .excD a b c (s _ _ d) (r.mono s)
theorem MR.dr {K : PySem.W.Frag} {G : Hp} {o : HO} {m : MO} {a : Addr} (h : MR K G a o m) (e : G a = some o) : DR K G (.ref a) m.d := by
  cases h with
  | lst r => exact .lst (SqL.of e) r
  | dic r => exact .dic e r
  | exc0 a b c => exact .exc0 e a b c
  | excD a b c d r => exact .excD e a b c d r
inductive Sl where
  | emp | dat (d : D) | own (m : MO)
/-- the slots σ over the heap H are ρ; data by G; owned: the addresses O -/
inductive Slots (K : PySem.W.Frag) (H G : Hp) : L2.St → List Sl → List Addr → Prop
  | nil : Slots K H G [] [] []
  | emp {v : Option V} {σ : L2.St} {ρ : List Sl} {O : List Addr} : Slots K H G σ ρ O → Slots K H G (v :: σ) (.emp :: ρ) O
  | dat {v : V} {d : D} {σ : L2.St} {ρ : List Sl} {O : List Addr} : DR K G v d → Slots K H G σ ρ O → Slots K H G (some v :: σ) (.dat d :: ρ) O
  | own {a : Addr} {o : HO} {m : MO} {σ : L2.St} {ρ : List Sl} {O : List Addr} : H a = some o → MR K G a o m → a ∉ O → Slots K H G σ ρ O → Slots K H G (some (.ref a) :: σ) (.own m :: ρ) (a :: O)
section
variable {K : PySem.W.Frag} {H H' G G' : Hp} {σ : L2.St} {ρ : List Sl} {O : List Addr}
theorem Slots.mono (h : Slots K H G σ ρ O) (s : ∀ a ∈ O, ∀ o, H a = some o → H' a = some o) (g : Same G G') : Slots K H' G' σ ρ O := by
  induction h with
  | nil => exact .nil
  | emp _ ih => exact .emp (ih s)
  | dat r _ ih => exact .dat (r.mono g) (ih s)
  | own e r n _ ih => exact .own (s _ (List.mem_cons_self) _ e) (r.mono g) n (ih fun a h => s a (List.mem_cons_of_mem _ h))
theorem Slots.there (h : Slots K H G σ ρ O) : Al O H := by
  induction h with
  | nil => intro b hb; cases hb
  | emp _ ih => exact ih
  | dat _ _ ih => exact ih
  | own e _ _ _ ih =>
    intro b hb
    rcases List.mem_cons.mp hb with rfl | hb
    · rw [e]; intro q; cases q
    · exact ih b hb
theorem Slots.len (h : Slots K H G σ ρ O) : σ.length = ρ.length := by
  induction h with
  | nil => rfl
  | emp _ ih => simp [ih]
  | dat _ _ ih => simp [ih]
  | own _ _ _ _ ih => simp [ih]
theorem Slots.get (h : Slots K H G σ ρ O) : ∀ {i : Nat} {d : D}, ρ[i]? = some (.dat d) → ∃ v, σ[i]? = some (some v) ∧ DR K G v d := by
  induction h with
  | nil => intro i d e; simp at e
  | emp _ ih =>
    intro i d e
    cases i with
    | zero => simp at e
    | succ i => simpa using ih (by simpa using e)
  | dat r _ ih =>
    intro i d e
    cases i with
    | zero => simp at e; subst e; exact ⟨_, rfl, r⟩
    | succ i => simpa using ih (by simpa using e)
  | own _ _ _ _ ih =>
    intro i d e
    cases i with
    | zero => simp at e
    | succ i => simpa using ih (by simpa using e)
/-- an owned slot: its object; what stands behind a change of it -/
theorem Slots.own_at (h : Slots K H G σ ρ O) : ∀ {i : Nat} {m : MO}, ρ[i]? = some (.own m) → ∃ a o, σ[i]? = some (some (.ref a)) ∧ a ∈ O ∧ H a = some o ∧ MR K G a o m ∧
    ∀ o' m', MR K G a o' m' → Slots K (upd H a o') G σ (ρ.set i (.own m')) O := by
  induction h with
  | nil => intro i m e; simp at e
  | emp _ ih =>
    intro i m e
    cases i with
    | zero => simp at e
    | succ i =>
      obtain ⟨a, o, e1, e2, e3, e4, k⟩ := ih (by simpa using e)
      exact ⟨a, o, by simpa using e1, e2, e3, e4, fun o' m' r => .emp (k o' m' r)⟩
  | dat r _ ih =>
    intro i m e
    cases i with
    | zero => simp at e
    | succ i =>
      obtain ⟨a, o, e1, e2, e3, e4, k⟩ := ih (by simpa using e)
      exact ⟨a, o, by simpa using e1, e2, e3, e4, fun o' m' r' => .dat r (k o' m' r')⟩
  | own e0 r n hs ih =>
    intro i m e
    cases i with
    | zero =>
      simp at e; subst e
      exact ⟨_, _, rfl, List.mem_cons_self, e0, r, fun o' m' r' => .own upd_same r' n (hs.mono (fun b hb o q => by
        rw [upd_ne]; exact q
        intro z; subst z; exact n hb) (Same.refl _))⟩
    | succ i =>
      obtain ⟨a, o, e1, e2, e3, e4, k⟩ := ih (by simpa using e)
      exact ⟨a, o, by simpa using e1, List.mem_cons_of_mem _ e2, e3, e4, fun o' m' r' => .own (by
        rw [upd_ne]; exact e0
        intro z; subst z; exact n e2) r n (k o' m' r')⟩
/-- a slot is stored -/
theorem Slots.set (h : Slots K H G σ ρ O) {v : V} {d : D} (r : DR K G v d) : ∀ (i : Nat), ∃ O', (∀ b ∈ O', b ∈ O) ∧ Slots K H G (σ.set i (some v)) (ρ.set i (.dat d)) O' := by
  induction h with
  | nil => intro i; exact ⟨[], fun _ h => h, .nil⟩
  | emp h ih =>
    intro i
    cases i with
    | zero => exact ⟨_, fun _ h => h, .dat r h⟩
    | succ i => obtain ⟨O', h1, h2⟩ := ih i; exact ⟨O', h1, .emp h2⟩
  | dat r' h ih =>
    intro i
    cases i with
    | zero => exact ⟨_, fun _ h => h, .dat r h⟩
    | succ i => obtain ⟨O', h1, h2⟩ := ih i; exact ⟨O', h1, .dat r' h2⟩
  | own e m n h ih =>
    intro i
    cases i with
    | zero => exact ⟨_, fun b hb => List.mem_cons_of_mem _ hb, .dat r h⟩
    | succ i =>
      obtain ⟨O', h1, h2⟩ := ih i
      refine ⟨_ :: O', fun b hb => ?_, .own e m (fun q => n (h1 _ q)) h2⟩
      rcases List.mem_cons.mp hb with rfl | hb
      · exact List.mem_cons_self
      · exact List.mem_cons_of_mem _ (h1 b hb)
/-- a new owned object is stored -/
theorem Slots.setOwn (h : Slots K H G σ ρ O) {p : Addr} {o : HO} {m : MO} (e : H p = some o) (r : MR K G p o m) (n : p ∉ O) : ∀ (i : Nat), i < ρ.length →
    ∃ O', (∀ b ∈ O', b = p ∨ b ∈ O) ∧ p ∈ O' ∧ Slots K H G (σ.set i (some (.ref p))) (ρ.set i (.own m)) O' := by
  induction h with
  | nil => intro i hi; simp at hi
  | emp h ih =>
    intro i hi
    cases i with
    | zero => exact ⟨p :: _, fun b hb => List.mem_cons.mp hb, List.mem_cons_self, .own e r n h⟩
    | succ i => obtain ⟨O', h1, h2, h3⟩ := ih n i (by simpa using hi); exact ⟨O', h1, h2, .emp h3⟩
  | dat r' h ih =>
    intro i hi
    cases i with
    | zero => exact ⟨p :: _, fun b hb => List.mem_cons.mp hb, List.mem_cons_self, .own e r n h⟩
    | succ i => obtain ⟨O', h1, h2, h3⟩ := ih n i (by simpa using hi); exact ⟨O', h1, h2, .dat r' h3⟩
  | own e' m' n' h ih =>
    intro i hi
    cases i with
    | zero =>
      refine ⟨p :: _, fun b hb => ?_, List.mem_cons_self, .own e r (fun q => n (List.mem_cons_of_mem _ q)) h⟩
      rcases List.mem_cons.mp hb with rfl | hb
      · exact .inl rfl
      · exact .inr (List.mem_cons_of_mem _ hb)
    | succ i =>
      obtain ⟨O', h1, h2, h3⟩ := ih (fun q => n (List.mem_cons_of_mem _ q)) i (by simpa using hi)
      refine ⟨_ :: O', fun b hb => ?_, List.mem_cons_of_mem _ h2, .own e' m' (fun q => ?_) h3⟩
      · rcases List.mem_cons.mp hb with rfl | hb
        · exact .inr List.mem_cons_self
        · exact (h1 b hb).imp id (List.mem_cons_of_mem _)
      · rcases h1 _ q with z | z
        · subst z; exact n List.mem_cons_self
        · exact n' z
/-- an owned object is given up: it is data from here on -/
theorem Slots.freeze (h : Slots K H G σ ρ O) : ∀ {i : Nat} {m : MO}, ρ[i]? = some (.own m) → ∃ a O', a ∈ O ∧ a ∉ O' ∧ (∀ b, b ∈ O → b = a ∨ b ∈ O') ∧ (∀ b ∈ O', b ∈ O) ∧
    ∀ G', Same G G' → G' a = H a → Slots K H G' σ (ρ.set i (.dat m.d)) O' := by
  induction h with
  | nil => intro i m e; simp at e
  | emp h ih =>
    intro i m e
    cases i with
    | zero => simp at e
    | succ i =>
      obtain ⟨a, O', h1, h2, h3, h4, k⟩ := ih (by simpa using e)
      exact ⟨a, O', h1, h2, h3, h4, fun G' s q => .emp (k G' s q)⟩
  | dat r h ih =>
    intro i m e
    cases i with
    | zero => simp at e
    | succ i =>
      obtain ⟨a, O', h1, h2, h3, h4, k⟩ := ih (by simpa using e)
      exact ⟨a, O', h1, h2, h3, h4, fun G' s q => .dat (r.mono s) (k G' s q)⟩
  | own e0 r n h ih =>
    intro i m e
    cases i with
    | zero =>
      simp at e; subst e
      refine ⟨_, _, List.mem_cons_self, n, fun b hb => List.mem_cons.mp hb, fun b hb => List.mem_cons_of_mem _ hb, fun G' s q => ?_⟩
      exact .dat ((r.mono s).dr (q.trans e0)) (h.mono (fun _ _ _ z => z) s)
    | succ i =>
      obtain ⟨a, O', h1, h2, h3, h4, k⟩ := ih (by simpa using e)
      refine ⟨a, _ :: O', List.mem_cons_of_mem _ h1, ?_, ?_, ?_, fun G' s q => .own e0 (r.mono s) (fun z => n (h4 _ z)) (k G' s q)⟩
      · intro z
        rcases List.mem_cons.mp z with z | z
        · subst z; exact n h1
        · exact h2 z
      · intro b hb
        rcases List.mem_cons.mp hb with rfl | hb
        · exact .inr List.mem_cons_self
        · exact (h3 b hb).imp id (List.mem_cons_of_mem _)
      · intro b hb
        rcases List.mem_cons.mp hb with rfl | hb
        · exact List.mem_cons_self
        · exact List.mem_cons_of_mem _ (h4 b hb)
end
/-- where a def stands: data avoid what is owned here (O) and by others (B) -/
structure At (K : PySem.W.Frag) (B O : List Addr) (σ : L2.St) (H : Hp) (ρ : List Sl) : Prop where
  sl : Slots K H (off (O ++ B) H) σ ρ O
  al : Al B H
  dj : ∀ b ∈ O, b ∉ B
section
variable {K : PySem.W.Frag} {B O : List Addr} {σ : L2.St} {H H' : Hp} {ρ : List Sl}
theorem At.all (A : At K B O σ H ρ) : Al (O ++ B) H := fun b hb => (List.mem_append.mp hb).elim (A.sl.there b) (A.al b)
theorem At.grow (A : At K B O σ H ρ) (s : Same H H') : At K B O σ H' ρ := ⟨A.sl.mono (fun a _ o e => s a o e) (off_same s), A.al.mono s, A.dj⟩
/-- one more address that is not ours -/
theorem At.more (A : At K B O σ H ρ) {p : Addr} {o : HO} (hp : H p = none) (s : Same H (off [p] H')) (hH : H' p = some o) : At K (p :: B) O σ H' ρ := by
  have s' : Same H H' := s.trans off_le
  have hpO : p ∉ O ++ B := A.all.new hp
  refine ⟨A.sl.mono (fun a _ o e => s' a o e) fun b o e => ?_, fun b hb => ?_, fun b hb hq => ?_⟩
  · have h2 : b ∉ O ++ B := fun q => by rw [off_in q] at e; cases e
    rw [off_ne h2] at e
    have h3 : b ≠ p := ne_of_none e hp
    have h4 : b ∉ O ++ (p :: B) := fun q => by
      rcases List.mem_append.mp q with q | q
      · exact h2 (List.mem_append_left _ q)
      · rcases List.mem_cons.mp q with q | q
        · exact h3 q
        · exact h2 (List.mem_append_right _ q)
    rw [off_ne h4]
    exact s' _ _ e
  · rcases List.mem_cons.mp hb with rfl | hb
    · rw [hH]; intro q; cases q
    · exact A.al.mono s' b hb
  · rcases List.mem_cons.mp hq with rfl | hq
    · exact hpO (List.mem_append_left _ hb)
    · exact A.dj b hb hq
end
/-- a slot that was not owned is stored -/
theorem Slots.set' {K : PySem.W.Frag} {H G : Hp} {σ : L2.St} {ρ : List Sl} {O : List Addr} (h : Slots K H G σ ρ O) {v : V} {d : D} (r : DR K G v d) : ∀ (i : Nat), (∀ m, ρ[i]? ≠ some (.own m)) → Slots K H G (σ.set i (some v)) (ρ.set i (.dat d)) O := by
  induction h with
  | nil => intro i _; exact .nil
  | emp h ih =>
    intro i hn
    cases i with
    | zero => exact .dat r h
    | succ i => exact .emp (ih i fun m q => hn m (by simpa using q))
  | dat r' h ih =>
    intro i hn
    cases i with
    | zero => exact .dat r h
    | succ i => exact .dat r' (ih i fun m q => hn m (by simpa using q))
  | own e m n h ih =>
    intro i hn
    cases i with
    | zero => exact absurd rfl (hn _)
    | succ i => exact .own e m n (ih i fun m q => hn m (by simpa using q))
theorem Slots.clr {K : PySem.W.Frag} {H G : Hp} {σ : L2.St} {ρ : List Sl} {O : List Addr} (h : Slots K H G σ ρ O) : ∀ (i : Nat), (∀ m, ρ[i]? ≠ some (.own m)) → Slots K H G (σ.set i none) (ρ.set i .emp) O := by
  induction h with
  | nil => intro i _; exact .nil
  | emp h ih =>
    intro i hn
    cases i with
    | zero => exact .emp h
    | succ i => exact .emp (ih i fun m q => hn m (by simpa using q))
  | dat r' h ih =>
    intro i hn
    cases i with
    | zero => exact .emp h
    | succ i => exact .dat r' (ih i fun m q => hn m (by simpa using q))
  | own e m n h ih =>
    intro i hn
    cases i with
    | zero => exact absurd rfl (hn _)
    | succ i => exact .own e m n (ih i fun m q => hn m (by simpa using q))
end DL
set_option Elab.async false
set_option linter.all false
set_option maxRecDepth 100000
set_option maxHeartbeats 1000000
/-! DL2: expressions by data. -/
namespace DL
open PySem PySem.Spec PyProof.Rows L2

/-- hidden from evaluation -/
structure Hd (p : Prop) : Prop where
  run : p
/-- the strongest readings -/
def SE (X : Cx) (e : Expr) : TE := fun σ H Q => Hd (∀ (pins : List (Addr × Obj)) (s : Shared), Inv X pins σ H s → wpAny (model X.prog X.w) X.A (eval e X.env) (EP X pins σ Q) X.xe s)
def ST (X : Cx) (e : Expr) : TT := fun σ H Q => Hd (∀ (pins : List (Addr × Obj)) (s : Shared), Inv X pins σ H s → wpAny (model X.prog X.w) X.A (isTrue e X.env (eval e X.env)) (TP X pins σ Q) X.xe s)
def SW (X : Cx) (e : Expr) : TT := fun σ H Q => Hd (∀ (whole : Sem Value) (pins : List (Addr × Obj)) (s : Shared), Inv X pins σ H s → wpAny (model X.prog X.w) X.A (isTrue e X.env whole) (TP X pins σ Q) X.xe s)
def SA (X : Cx) (es : List Expr) : TA := fun σ H Q => Hd (∀ (pos : Pos) (pins : List (Addr × Obj)) (s : Shared), Inv X pins σ H s → wpAny (model X.prog X.w) X.A (spliced (backTo pos (starEach es X.env))) (AP X pins σ Q) X.xe s)
def SG (X : Cx) (tg : Expr) : TG := fun v σ H Q => Hd (∀ (pins : List (Addr × Obj)) (s : Shared) (u : Value), Inv X pins σ H s → RelV v u →
  wpAny (model X.prog X.w) X.A (assign tg X.env u) (fun _ s' => ∃ σ' H', Inv X pins σ' H' s' ∧ Q σ' H') X.xe s)
theorem pe_se {X : Cx} {e : Expr} : PE X e (SE X e) := ⟨fun pins s σ H Q I h => h.run pins s I⟩
theorem pt_st {X : Cx} {e : Expr} : PT X e (ST X e) := ⟨fun pins s σ H Q I h => h.run pins s I⟩
theorem pw_sw {X : Cx} {e : Expr} : PW X e (SW X e) := ⟨fun wh pins s σ H Q I h => h.run wh pins s I⟩
theorem pa_sa {X : Cx} {es : List Expr} : PA X es (SA X es) := ⟨fun pos pins s σ H Q I h => h.run pos pins s I⟩
theorem pg_sg {X : Cx} {tg : Expr} : PG X tg (SG X tg) := ⟨fun pins s σ H v u Q I r h => h.run pins s u I r⟩
theorem _root_.L2.PE.se {X : Cx} {e : Expr} {t : TE} (h : PE X e t) {σ : L2.St} {H : Hp} {Q : VK} (q : t σ H Q) : SE X e σ H Q := ⟨fun pins s I => h.run pins s σ H Q I q⟩
theorem _root_.L2.PT.st {X : Cx} {e : Expr} {t : TT} (h : PT X e t) {σ : L2.St} {H : Hp} {Q : Bool → Hp → Prop} (q : t σ H Q) : ST X e σ H Q := ⟨fun pins s I => h.run pins s σ H Q I q⟩
theorem _root_.L2.PW.sw {X : Cx} {e : Expr} {t : TT} (h : PW X e t) {σ : L2.St} {H : Hp} {Q : Bool → Hp → Prop} (q : t σ H Q) : SW X e σ H Q := ⟨fun wh pins s I => h.run wh pins s σ H Q I q⟩
theorem _root_.L2.PA.sa {X : Cx} {es : List Expr} {t : TA} (h : PA X es t) {σ : L2.St} {H : Hp} {Q : List V → Hp → Prop} (q : t σ H Q) : SA X es σ H Q := ⟨fun pos pins s I => h.run pos pins s σ H Q I q⟩
theorem _root_.L2.PG.sg {X : Cx} {tg : Expr} {t : TG} (h : PG X tg t) {v : V} {σ : L2.St} {H : Hp} {Q : L2.St → Hp → Prop} (q : t v σ H Q) : SG X tg v σ H Q := ⟨fun pins s u I r => h.run pins s σ H v u Q I r q⟩

/-- what follows a value -/
abbrev Yld (K : PySem.W.Frag) (Z : List Addr) (H : Hp) (d : D) (Q : VK) : Prop := ∀ v H', Same H H' → DR K (off Z H') v d → Q v H'
/-- what follows a new object -/
abbrev New (K : PySem.W.Frag) (Z : List Addr) (H : Hp) (m : MO) (Q : VK) : Prop := ∀ p o H', H p = none → Same H H' → H' p = some o → MR K (off (p :: Z) H') p o m → Q (.ref p) H'
/-- e gives the data d, changes nothing -/
def DE (X : Cx) (ρ : List Sl) (e : Expr) (d : D) : Prop := ∀ B O σ H Q, At X.K B O σ H ρ → Yld X.K (O ++ B) H d Q → SE X e σ H Q
/-- e gives a new object m -/
def DF (X : Cx) (ρ : List Sl) (e : Expr) (m : MO) : Prop := ∀ B O σ H Q, At X.K B O σ H ρ → New X.K (O ++ B) H m Q → SE X e σ H Q
def DA (X : Cx) (ρ : List Sl) (es : List Expr) (ds : List D) : Prop := ∀ B O σ H Q, At X.K B O σ H ρ → (∀ vs H', Same H H' → DRs X.K (off (O ++ B) H') vs ds → Q vs H') → SA X es σ H Q
def DT (X : Cx) (ρ : List Sl) (e : Expr) (b : Bool) : Prop := ∀ B O σ H (Q : Bool → Hp → Prop), At X.K B O σ H ρ → (∀ H', Same H H' → Q b H') → ST X e σ H Q
def DW (X : Cx) (ρ : List Sl) (e : Expr) (b : Bool) : Prop := ∀ B O σ H (Q : Bool → Hp → Prop), At X.K B O σ H ρ → (∀ H', Same H H' → Q b H') → SW X e σ H Q

section
variable {X : Cx} {ρ : List Sl} {e a b c : Expr} {es rest : List Expr} {d da db : D} {ds : List D} {m : MO} {pos p apos : Pos} {K : PySem.W.Frag}
theorem Yld.grow {Z : List Addr} {H H1 : Hp} {Q : VK} (k : Yld K Z H d Q) (s : Same H H1) : Yld K Z H1 d Q := fun v H' s' r => k v H' (s.trans s') r
theorem New.grow {Z : List Addr} {H H1 : Hp} {Q : VK} (k : New K Z H m Q) (s : Same H H1) : New K Z H1 m Q := fun p o H' n s' => k p o H' (s.free n) (s.trans s')
/-- a new object is data -/
theorem DF.de (h : DF X ρ e m) : DE X ρ e m.d := fun B O σ H Q A k => h B O σ H Q A fun p o H' n s e r => by
  refine k _ _ s (r.mono (off_sub fun b hb => List.mem_cons_of_mem _ hb) |>.dr ?_)
  rw [off_ne (A.all.new n)]; exact e
theorem DE.eq {d' : D} (h : DE X ρ e d) (q : d = d') : DE X ρ e d' := q ▸ h
theorem DF.eq {m' : MO} (h : DF X ρ e m) (q : m = m') : DF X ρ e m' := q ▸ h
theorem DT.eq {x y : Bool} (h : DT X ρ e x) (q : x = y) : DT X ρ e y := q ▸ h

/-! ### names, constants -/
theorem de_var (i : Nat) {x : Str} {d : D} (hρ : ρ[i]? = some (.dat d) := by rfl) (hN : X.N[i]? = some x := by rfl) (hv : Vis X.env.scope x := by first | exact .inl rfl | exact .inr (.inl rfl) | exact .inr (.inr rfl))
    (hd : (x == ("__debug__" : Str)) = false := by decide) (hcd : (x == ("__classdict__" : Str)) = false := by decide) : DE X ρ (.Name x pos) d := fun B O σ H Q A k => by
  obtain ⟨v, e, r⟩ := A.sl.get hρ
  exact (pe_var hN hv hd hcd).se ⟨v, e, k _ _ (Same.refl _) r⟩
theorem de_int {i : Int} {j : Nat} : DE X ρ (.Constant (.int i) j pos) (.int i) := fun B O σ H Q A k => pe_int.se (k _ _ (Same.refl _) (.int i))
theorem de_bl {b : Bool} {j : Nat} : DE X ρ (.Constant (.bool b) j pos) (.bl b) := fun B O σ H Q A k => pe_bl.se (k _ _ (Same.refl _) (.bl b))
theorem de_non {j : Nat} : DE X ρ (.Constant .none j pos) .non := fun B O σ H Q A k => pe_non.se (k _ _ (Same.refl _) .non)
theorem de_str {x : Str} {j : Nat} : DE X ρ (.Constant (.str x) j pos) (.str x) := fun B O σ H Q A k => pe_str.se (k _ _ (Same.refl _) (.str x))
theorem de_glob {x : Str} {v : V} {u : Value} (hg : Gl X x) (hm : X.mg x = some u) (r : RelV v u) (hr : ∀ H, DR X.K H v d) (hd : (x == ("__debug__" : Str)) = false := by decide) : DE X ρ (.Name x pos) d := fun B O σ H Q A k =>
  (pe_glob hg hm r hd).se (k _ _ (Same.refl _) (hr _))

/-! ### operators -/
theorem de_op {op : Operator} {r : R2} (ho : OpR X (binaryOp op) r) (ha : DE X ρ a da) (hb : DE X ρ b db)
    (h : ∀ Z H x y Q, DR X.K (off Z H) x da → DR X.K (off Z H) y db → Al Z H → Yld X.K Z H d Q → r x y H Q) : DE X ρ (.BinOp a op b pos) d := fun B O σ H Q A k =>
  (pe_op ho pe_se pe_se).se (ha B O σ H _ A fun x H1 s1 r1 => hb B O σ H1 _ (A.grow s1) fun y H2 s2 r2 => h _ _ _ _ _ (r1.mono (off_same s2)) r2 (A.all.mono (s1.trans s2)) (k.grow (s1.trans s2)))
theorem df_op {op : Operator} {r : R2} (ho : OpR X (binaryOp op) r) (ha : DE X ρ a da) (hb : DE X ρ b db)
    (h : ∀ Z H x y Q, DR X.K (off Z H) x da → DR X.K (off Z H) y db → Al Z H → New X.K Z H m Q → r x y H Q) : DF X ρ (.BinOp a op b pos) m := fun B O σ H Q A k =>
  (pe_op ho pe_se pe_se).se (ha B O σ H _ A fun x H1 s1 r1 => hb B O σ H1 _ (A.grow s1) fun y H2 s2 r2 => h _ _ _ _ _ (r1.mono (off_same s2)) r2 (A.all.mono (s1.trans s2)) (k.grow (s1.trans s2)))
theorem de_un {op : UnaryOp} {r : V → Hp → VK → Prop} (ho : UnR X (unaryOp op) r) (ha : DE X ρ a da)
    (h : ∀ Z H x Q, DR X.K (off Z H) x da → Al Z H → Yld X.K Z H d Q → r x H Q) : DE X ρ (.UnaryOp op a pos) d := fun B O σ H Q A k =>
  (pe_un ho pe_se).se (ha B O σ H _ A fun x H1 s1 r1 => h _ _ _ _ r1 (A.all.mono s1) (k.grow s1))
/-- two ints -/
theorem de_opI {op : Operator} {C : Int → Int → Prop} {g : Int → Int → V} {i j : Int} (ho : OpR X (binaryOp op) (rI C g)) (ha : DE X ρ a (.int i)) (hb : DE X ρ b (.int j)) (hc : C i j) (hr : ∀ H, DR X.K H (g i j) d) : DE X ρ (.BinOp a op b pos) d :=
  de_op ho ha hb fun Z H x y Q r1 r2 _ k => by
    cases r1; cases r2
    exact ⟨_, _, rfl, rfl, hc, k _ _ (Same.refl _) (hr _)⟩
theorem de_opI0 {op : Operator} {g : Int → Int → V} {i j : Int} (ho : OpR X (binaryOp op) (rI0 g)) (ha : DE X ρ a (.int i)) (hb : DE X ρ b (.int j)) (hr : ∀ H, DR X.K H (g i j) d) : DE X ρ (.BinOp a op b pos) d :=
  de_op ho ha hb fun Z H x y Q r1 r2 _ k => by
    cases r1; cases r2
    exact ⟨_, _, rfl, rfl, k _ _ (Same.refl _) (hr _)⟩
variable {i j : Int}
theorem de_add (ha : DE X ρ a (.int i)) (hb : DE X ρ b (.int j)) : DE X ρ (.BinOp a .Add b pos) (.int (i + j)) := de_opI0 op_add ha hb fun _ => .int _
theorem de_sub (ha : DE X ρ a (.int i)) (hb : DE X ρ b (.int j)) : DE X ρ (.BinOp a .Sub b pos) (.int (i - j)) := de_opI0 op_sub ha hb fun _ => .int _
theorem de_mul (ha : DE X ρ a (.int i)) (hb : DE X ρ b (.int j)) (hc : CMul i j) : DE X ρ (.BinOp a .Mult b pos) (.int (i * j)) := de_opI op_mul ha hb hc fun _ => .int _
theorem de_mod (ha : DE X ρ a (.int i)) (hb : DE X ρ b (.int j)) (hc : 0 < j) : DE X ρ (.BinOp a .Mod b pos) (.int (i % j)) := de_opI op_mod ha hb hc fun _ => .int _
theorem de_fdiv (ha : DE X ρ a (.int i)) (hb : DE X ρ b (.int j)) (hc : 0 < j ∧ j < 1073741824) : DE X ρ (.BinOp a .FloorDiv b pos) (.int (i / j)) := de_opI op_fdiv ha hb hc fun _ => .int _
theorem de_pow (ha : DE X ρ a (.int i)) (hb : DE X ρ b (.int j)) (hc : CPow i j) : DE X ρ (.BinOp a .Pow b pos) (.int (i ^ j.toNat)) := de_opI op_pow ha hb hc fun _ => .int _
theorem de_neg (ha : DE X ρ a (.int i)) : DE X ρ (.UnaryOp .USub a pos) (.int (-i)) := de_un un_neg ha fun Z H x Q r1 _ k => by
  cases r1; exact ⟨_, rfl, k _ _ (Same.refl _) (.int _)⟩
theorem de_addS {x y : Str} (ha : DE X ρ a (.str x)) (hb : DE X ρ b (.str y)) (hc : x.length + y.length ≤ sizeLine) : DE X ρ (.BinOp a .Add b pos) (.str (x ++ y)) := de_op op_add_str ha hb fun Z H x y Q r1 r2 _ k => by
  cases r1; cases r2
  exact ⟨_, _, rfl, rfl, hc, k _ _ (Same.refl _) (.str _)⟩
/-! ### comparisons, as values and as tests -/
theorem de_cmpG {op : CmpOp} {r : R2} (ho : OpR X (compareOp op) r) (ha : DE X ρ a da) (hb : DE X ρ b db) (hm : behindInMarks op b = false)
    (h : ∀ Z H x y Q, DR X.K (off Z H) x da → DR X.K (off Z H) y db → Yld X.K Z H d Q → r x y H Q) : DE X ρ (.Compare a [op] [b] pos) d := fun B O σ H Q A k =>
  (pe_cmpR ho pe_se pe_se hm).se (ha B O σ H _ A fun x H1 s1 r1 => hb B O σ H1 _ (A.grow s1) fun y H2 s2 r2 => h _ _ _ _ _ (r1.mono (off_same s2)) r2 (k.grow (s1.trans s2)))
theorem dt_cmpG {op : CmpOp} {r : R2} {z : Bool} (ho : OpR X (compareOp op) r) (ha : DE X ρ a da) (hb : DE X ρ b db) (hm : behindInMarks op b = false)
    (h : ∀ Z H x y Q, DR X.K (off Z H) x da → DR X.K (off Z H) y db → Yld X.K Z H (.bl z) Q → r x y H Q) : DT X ρ (.Compare a [op] [b] pos) z := fun B O σ H Q A k =>
  (pt_cmpR ho pe_se pe_se hm).st (ha B O σ H _ A fun x H1 s1 r1 => hb B O σ H1 _ (A.grow s1) fun y H2 s2 r2 => h (O ++ B) _ _ _ _ (r1.mono (off_same s2)) r2 fun v H3 s3 r3 => by
    cases r3; exact ⟨_, rfl, k _ (s1.trans (s2.trans s3))⟩)
/-- a comparison: its rule -/
structure CmpD (X : Cx) (op : CmpOp) (da db : D) (z : Bool) : Prop where
  ok : ∃ r, OpR X (compareOp op) r ∧ ∀ Z H x y Q, DR X.K (off Z H) x da → DR X.K (off Z H) y db → Yld X.K Z H (.bl z) Q → r x y H Q
theorem de_cmp {op : CmpOp} {z : Bool} (c : CmpD X op da db z) (ha : DE X ρ a da) (hb : DE X ρ b db) (hm : behindInMarks op b = false := by first | exact nomark _ | rfl) : DE X ρ (.Compare a [op] [b] pos) (.bl z) := by
  obtain ⟨r, ho, h⟩ := c.ok
  exact de_cmpG ho ha hb hm h
theorem dt_cmp {op : CmpOp} {z : Bool} (c : CmpD X op da db z) (ha : DE X ρ a da) (hb : DE X ρ b db) (hm : behindInMarks op b = false := by first | exact nomark _ | rfl) : DT X ρ (.Compare a [op] [b] pos) z := by
  obtain ⟨r, ho, h⟩ := c.ok
  exact dt_cmpG ho ha hb hm h
theorem c_int {op : CmpOp} {g : Int → Int → Bool} (ho : OpR X (compareOp op) (rI0 fun i j => .bl (g i j))) : CmpD X op (.int i) (.int j) (g i j) := ⟨_, ho, fun Z H x y Q r1 r2 k => by
  cases r1; cases r2
  exact ⟨_, _, rfl, rfl, k _ _ (Same.refl _) (.bl _)⟩⟩
theorem c_lt : CmpD X .Lt (.int i) (.int j) (decide (i < j)) := c_int op_lt
theorem c_le : CmpD X .LtE (.int i) (.int j) (decide (i ≤ j)) := c_int op_le
theorem c_gt : CmpD X .Gt (.int i) (.int j) (decide (j < i)) := c_int op_gt
theorem c_ge : CmpD X .GtE (.int i) (.int j) (decide (j ≤ i)) := c_int op_ge
theorem c_eq : CmpD X .Eq (.int i) (.int j) (decide (i = j)) := ⟨_, op_eq, fun Z H x y Q r1 r2 k => by
  cases r1; cases r2
  refine ⟨rfl, k _ _ (Same.refl _) ?_⟩
  rw [dec_int]; exact (by rw [Bool.beq_eq_decide_eq]; exact .bl _)⟩
theorem c_ne : CmpD X .NotEq (.int i) (.int j) (!decide (i = j)) := ⟨_, op_ne, fun Z H x y Q r1 r2 k => by
  cases r1; cases r2
  refine ⟨rfl, k _ _ (Same.refl _) ?_⟩
  rw [dec_int]; exact (by rw [Bool.beq_eq_decide_eq]; exact .bl _)⟩
theorem c_eqS {x y : Str} : CmpD X .Eq (.str x) (.str y) (decide (x = y)) := ⟨_, op_eq, fun Z H x y Q r1 r2 k => by
  cases r1; cases r2
  refine ⟨rfl, k _ _ (Same.refl _) ?_⟩
  rw [dec_str]; exact (by rw [Bool.beq_eq_decide_eq]; exact .bl _)⟩
theorem c_neS {x y : Str} : CmpD X .NotEq (.str x) (.str y) (!decide (x = y)) := ⟨_, op_ne, fun Z H x y Q r1 r2 k => by
  cases r1; cases r2
  refine ⟨rfl, k _ _ (Same.refl _) ?_⟩
  rw [dec_str]; exact (by rw [Bool.beq_eq_decide_eq]; exact .bl _)⟩
theorem c_eqB {x y : Bool} : CmpD X .Eq (.bl x) (.bl y) (decide (x = y)) := ⟨_, op_eq, fun Z H x y Q r1 r2 k => by
  cases r1; cases r2
  refine ⟨rfl, k _ _ (Same.refl _) ?_⟩
  rw [dec_bl]; exact (by rw [Bool.beq_eq_decide_eq]; exact .bl _)⟩
theorem c_neB {x y : Bool} : CmpD X .NotEq (.bl x) (.bl y) (!decide (x = y)) := ⟨_, op_ne, fun Z H x y Q r1 r2 k => by
  cases r1; cases r2
  refine ⟨rfl, k _ _ (Same.refl _) ?_⟩
  rw [dec_bl]; exact (by rw [Bool.beq_eq_decide_eq]; exact .bl _)⟩
def D.isNon : D → Bool
  | .non => true
  | _ => false
theorem DR.nonV {G : Hp} {v : V} (r : DR K G v d) : decide (v = .non) = d.isNon := by
  cases r <;> rfl
theorem c_isN : CmpD X .Is d .non d.isNon := ⟨_, op_isN, fun Z H x y Q r1 r2 k => by
  cases r2
  refine ⟨rfl, k _ _ (Same.refl _) ?_⟩
  rw [r1.nonV]; exact .bl _⟩
theorem c_notN : CmpD X .IsNot d .non (!d.isNon) := ⟨_, op_notN, fun Z H x y Q r1 r2 k => by
  cases r2
  refine ⟨rfl, k _ _ (Same.refl _) ?_⟩
  rw [r1.nonV]; exact .bl _⟩
theorem de_chain {op op' : CmpOp} {dc : D} {x y : Bool} (c1 : CmpD X op da db x) (c2 : CmpD X op' db dc y) (ha : DE X ρ a da) (hb : DE X ρ b db) (hc : DE X ρ c dc)
    (hm : lastMarks [op, op'] [b, c] = false := by with_unfolding_all rfl) : DE X ρ (.Compare a [op, op'] [b, c] pos) (.bl (x && y)) := by
  obtain ⟨r, ho, h⟩ := c1.ok
  obtain ⟨r', ho', h'⟩ := c2.ok
  intro B O σ H Q A k
  refine (pe_chain ho ho' pe_se pe_se pe_se hm).se ?_
  refine ha B O σ H _ A fun v1 H1 s1 r1 => hb B O σ H1 _ (A.grow s1) fun v2 H2 s2 r2 => h (O ++ B) _ _ _ _ (r1.mono (off_same s2)) r2 fun v3 H3 s3 r3 => ?_
  cases r3
  refine ⟨_, rfl, ?_⟩
  cases x with
  | false => rw [if_neg Bool.false_ne_true]; exact k _ _ (s1.trans (s2.trans s3)) (.bl _)
  | true =>
    rw [if_pos rfl]
    refine hc B O σ H3 _ (A.grow (s1.trans (s2.trans s3))) fun v4 H4 s4 r4 => h' (O ++ B) _ _ _ _ (r2.mono (off_same (s3.trans s4))) r4 fun v5 H5 s5 r5 => ?_
    cases r5
    first | exact k _ _ (s1.trans (s2.trans (s3.trans (s4.trans s5)))) (.bl _) | exact ⟨_, rfl, k _ _ (s1.trans (s2.trans (s3.trans (s4.trans s5)))) (.bl _)⟩
/-! ### tests -/
theorem dt_val {z : Bool} (h : DE X ρ e (.bl z)) (he : ∀ whole, isTrue e X.env whole = (do let v ← whole; standAt e.pos; holding [v] (truthy v)) := by intro _; rfl) : DT X ρ e z := fun B O σ H Q A k =>
  (pt_val pe_se he).st (h B O σ H _ A fun v H1 s1 r1 => by cases r1; exact ⟨_, rfl, k _ s1⟩)
theorem dt_not {z : Bool} (h : DT X ρ a z) : DT X ρ (.UnaryOp .Not a pos) (!z) := fun B O σ H Q A k => (pt_not pt_st).st (h B O σ H _ A fun H1 s1 => k _ s1)
theorem DW.dt {z : Bool} (h : DW X ρ e z) : DT X ρ e z := fun B O σ H Q A k => (PW.pt pw_sw).st (h B O σ H Q A k)
theorem dw_and1 {z : Bool} (h : DT X ρ a z) : DW X ρ (.BoolOp .And [a] pos) z := fun B O σ H Q A k => (pw_and1 pt_st).sw (h B O σ H Q A k)
theorem dw_or1 {z : Bool} (h : DT X ρ a z) : DW X ρ (.BoolOp .Or [a] pos) z := fun B O σ H Q A k => (pw_or1 pt_st).sw (h B O σ H Q A k)
theorem dw_and {x y : Bool} (h : DT X ρ a x) (h' : x = true → DW X ρ (.BoolOp .And (b :: rest) pos) y) : DW X ρ (.BoolOp .And (a :: b :: rest) pos) (x && y) := fun B O σ H Q A k =>
  (pw_and pt_st pw_sw).sw (h B O σ H _ A fun H1 s1 => by
    cases x with
    | false => rw [if_neg Bool.false_ne_true]; exact k _ s1
    | true => rw [if_pos rfl]; exact h' rfl B O σ H1 _ (A.grow s1) fun H2 s2 => k _ (s1.trans s2))
theorem dw_or {x y : Bool} (h : DT X ρ a x) (h' : x = false → DW X ρ (.BoolOp .Or (b :: rest) pos) y) : DW X ρ (.BoolOp .Or (a :: b :: rest) pos) (x || y) := fun B O σ H Q A k =>
  (pw_or pt_st pw_sw).sw (h B O σ H _ A fun H1 s1 => by
    cases x with
    | true => rw [if_pos rfl]; exact k _ s1
    | false => rw [if_neg Bool.false_ne_true]; exact h' rfl B O σ H1 _ (A.grow s1) fun H2 s2 => k _ (s1.trans s2))
/-- and, or, not as values (bools) -/
theorem de_one {op} (h : DE X ρ a d) : DE X ρ (.BoolOp op [a] pos) d := fun B O σ H Q A k => (pe_one pe_se).se (h B O σ H Q A k)
theorem de_and {x y : Bool} (h : DE X ρ a (.bl x)) (h' : x = true → DE X ρ (.BoolOp .And (b :: rest) pos) (.bl y)) : DE X ρ (.BoolOp .And (a :: b :: rest) pos) (.bl (x && y)) := fun B O σ H Q A k =>
  (pe_and pe_se pe_se).se (h B O σ H _ A fun v H1 s1 r1 => by
    cases r1
    refine ⟨_, rfl, ?_⟩
    cases x with
    | false => rw [if_neg Bool.false_ne_true]; exact k _ _ s1 (.bl _)
    | true => rw [if_pos rfl]; exact h' rfl B O σ H1 _ (A.grow s1) fun v H2 s2 r2 => k _ _ (s1.trans s2) r2)
theorem de_or {x y : Bool} (h : DE X ρ a (.bl x)) (h' : x = false → DE X ρ (.BoolOp .Or (b :: rest) pos) (.bl y)) : DE X ρ (.BoolOp .Or (a :: b :: rest) pos) (.bl (x || y)) := fun B O σ H Q A k =>
  (pe_or pe_se pe_se).se (h B O σ H _ A fun v H1 s1 r1 => by
    cases r1
    refine ⟨_, rfl, ?_⟩
    cases x with
    | true => rw [if_pos rfl]; exact k _ _ s1 (.bl _)
    | false => rw [if_neg Bool.false_ne_true]; exact h' rfl B O σ H1 _ (A.grow s1) fun v H2 s2 r2 => k _ _ (s1.trans s2) r2)
theorem de_not {x : Bool} (h : DE X ρ a (.bl x)) : DE X ρ (.UnaryOp .Not a pos) (.bl (!x)) := fun B O σ H Q A k => (pe_not pe_se).se (h B O σ H _ A fun v H1 s1 r1 => by
  cases r1; exact ⟨_, rfl, k _ _ s1 (.bl _)⟩)
theorem de_if {z : Bool} {d' : D} (h : DT X ρ c z) (h1 : z = true → DE X ρ a d) (h2 : z = false → DE X ρ b d') : DE X ρ (.IfExp c a b pos) (if z = true then d else d') := fun B O σ H Q A k =>
  (pe_ifExp pt_st pe_se pe_se).se (h B O σ H _ A fun H1 s1 => by
    cases z with
    | true => rw [if_pos rfl]; exact h1 rfl B O σ H1 _ (A.grow s1) fun v H2 s2 r => k _ _ (s1.trans s2) (by rw [if_pos rfl]; exact r)
    | false => rw [if_neg Bool.false_ne_true]; exact h2 rfl B O σ H1 _ (A.grow s1) fun v H2 s2 r => k _ _ (s1.trans s2) (by rw [if_neg Bool.false_ne_true]; exact r))

/-! ### argument lists, displays -/
theorem da_nil : DA X ρ [] [] := fun B O σ H Q A k => pa_nil.sa (k _ _ (Same.refl _) .nil)
theorem da_cons (h : DE X ρ e d) (h' : DA X ρ es ds) (hs : starEach (e :: es) X.env = (false, eval e X.env) :: starEach es X.env := by rfl) : DA X ρ (e :: es) (d :: ds) := fun B O σ H Q A k =>
  (pa_cons pe_se pa_sa hs).sa (h B O σ H _ A fun v H1 s1 r1 => h' B O σ H1 _ (A.grow s1) fun vs H2 s2 r2 => k _ _ (s1.trans s2) (.cons (r1.mono (off_same s2)) r2))
theorem de_tup {x1} (h : DA X ρ es ds) (hl : ds.length ≤ sizeLine := by first | decide +kernel | (simp only [List.length_cons, List.length_nil]; decide +kernel)) : DE X ρ (.Tuple es x1 pos) (.tup ds) := fun B O σ H Q A k =>
  (pe_tup pa_sa).se (h B O σ H _ A fun vs H1 s1 r1 => ⟨by rw [r1.length]; exact hl, fun p hp => k _ _ (s1.trans (same_upd hp)) (.tup (SqT.of (by rw [off_ne ((A.all.mono s1).new hp)]; exact upd_same)) (r1.mono (off_same (same_upd hp))))⟩)
theorem df_lst (h : DA X ρ es ds) (hl : ds.length ≤ sizeLine := by first | decide +kernel | (simp only [List.length_cons, List.length_nil]; decide +kernel)) : DF X ρ (.List es pos) (.lst ds) := fun B O σ H Q A k =>
  (pe_lst pa_sa).se (h B O σ H _ A fun vs H1 s1 r1 => ⟨by rw [r1.length]; exact hl, fun p hp => k p _ _ (s1.free hp) (s1.trans (same_upd hp)) upd_same (.lst (r1.mono fun b o e => by
    have hb : b ∉ O ++ B := fun q => by rw [off_in q] at e; cases e
    rw [off_ne hb] at e
    have hbp : b ≠ p := ne_of_none e hp
    rw [off_ne (fun q => (List.mem_cons.mp q).elim hbp hb), upd_ne hbp]
    exact e))⟩)
theorem off_new {Z : List Addr} {H : Hp} {p : Addr} {o : HO} (hp : H p = none) : Same (off Z H) (off (p :: Z) (upd H p o)) := fun b u e => by
  have hb : b ∉ Z := fun q => by rw [off_in q] at e; cases e
  rw [off_ne hb] at e
  have hbp : b ≠ p := ne_of_none e hp
  rw [off_ne (fun q => (List.mem_cons.mp q).elim hbp hb), upd_ne hbp]
  exact e
/-! ### calls of built-ins -/
theorem de_callB {id : String} {x : Str} {r : List V → Hp → VK → Prop} (hc : CallR X (.builtin id) r) (hg : Gl X x) (hm : X.mg x = none) (hv : bootBuiltins x = some (.builtin id)) (ha : DA X ρ (e :: es) ds)
    (h : ∀ Z H vs Q, DRs X.K (off Z H) vs ds → Al Z H → Yld X.K Z H d Q → r vs H Q)
    (hn : x ≠ "__name__" := by decide) (hdb : (x == ("__debug__" : Str)) = false := by decide) (he : starEach (e :: es) X.env = (false, eval e X.env) :: starEach es X.env := by rfl)
    (hpl : (backTo pos (starEach es X.env)).any (·.1) = false := by rfl) :
    DE X ρ (.Call (.Name x p) (e :: es) [] pos) d := fun B O σ H Q A k =>
  (pe_callB hc hg hm hv pa_sa hn hdb he hpl).se (ha B O σ H _ A fun vs H1 s1 r1 => h _ _ _ _ r1 (A.all.mono s1) (k.grow s1))
theorem de_callTy {T : String} {x : Str} {r : List V → Hp → VK → Prop} (hc : CallR X (.type T) r) (hg : Gl X x) (hm : X.mg x = none) (hv : bootBuiltins x = some (.type T)) (ha : DA X ρ (e :: es) ds)
    (h : ∀ Z H vs Q, DRs X.K (off Z H) vs ds → Al Z H → Yld X.K Z H d Q → r vs H Q)
    (hn : x ≠ "__name__" := by decide) (hdb : (x == ("__debug__" : Str)) = false := by decide) (he : starEach (e :: es) X.env = (false, eval e X.env) :: starEach es X.env := by rfl)
    (hpl : (backTo pos (starEach es X.env)).any (·.1) = false := by rfl) :
    DE X ρ (.Call (.Name x p) (e :: es) [] pos) d := fun B O σ H Q A k =>
  (pe_callTy hc hg hm hv pa_sa hn hdb he hpl).se (ha B O σ H _ A fun vs H1 s1 r1 => h _ _ _ _ r1 (A.all.mono s1) (k.grow s1))
theorem df_callTy {T : String} {x : Str} {r : List V → Hp → VK → Prop} (hc : CallR X (.type T) r) (hg : Gl X x) (hm : X.mg x = none) (hv : bootBuiltins x = some (.type T)) (ha : DA X ρ (e :: es) ds)
    (h : ∀ Z H vs Q, DRs X.K (off Z H) vs ds → Al Z H → New X.K Z H m Q → r vs H Q)
    (hn : x ≠ "__name__" := by decide) (hdb : (x == ("__debug__" : Str)) = false := by decide) (he : starEach (e :: es) X.env = (false, eval e X.env) :: starEach es X.env := by rfl)
    (hpl : (backTo pos (starEach es X.env)).any (·.1) = false := by rfl) :
    DF X ρ (.Call (.Name x p) (e :: es) [] pos) m := fun B O σ H Q A k =>
  (pe_callTy hc hg hm hv pa_sa hn hdb he hpl).se (ha B O σ H _ A fun vs H1 s1 r1 => h _ _ _ _ r1 (A.all.mono s1) (k.grow s1))
end
end DL
set_option Elab.async false
set_option linter.all false
set_option maxRecDepth 100000
set_option maxHeartbeats 1000000
/-! DL3: sequences, texts, equality, by data. -/
namespace DL
open PySem PySem.Spec PyProof.Rows L2

/-! ### plain data: none, bools, ints, texts, lists and tuples of such -/
mutual
def D.py : D → PyData
  | .non => .none
  | .bl b => .bool b
  | .int i => .int i
  | .str s => .str s
  | .lst xs => .list (D.pys xs)
  | .tup xs => .tuple (D.pys xs)
  | .ty _ => .none
  | .opq _ => .none
  | .dic _ => .none
  | .obj _ _ => .none
  | .exc _ _ => .none
def D.pys : List D → List PyData
  | [] => []
  | d :: ds => D.py d :: D.pys ds
end
mutual
def D.ok : D → Bool
  | .non => true
  | .bl _ => true
  | .int _ => true
  | .str _ => true
  | .lst xs => D.oks xs
  | .tup xs => D.oks xs
  | .ty _ => false
  | .opq _ => false
  | .dic _ => false
  | .obj _ _ => false
  | .exc _ _ => false
def D.oks : List D → Bool
  | [] => true
  | d :: ds => D.ok d && D.oks ds
end
mutual
theorem D.py_plain : ∀ d : D, d.ok = true → d.py.plain = true
  | .non, _ => rfl
  | .bl _, _ => rfl
  | .int _, _ => rfl
  | .str _, _ => rfl
  | .lst xs, h => by simp only [D.py, PyData.plain]; exact D.pys_plain xs (by simpa [D.ok] using h)
  | .tup xs, h => by simp only [D.py, PyData.plain]; exact D.pys_plain xs (by simpa [D.ok] using h)
  | .ty _, h => by simp [D.ok] at h
  | .opq _, h => by simp [D.ok] at h
  | .dic _, h => by simp [D.ok] at h
  | .obj _ _, h => by simp [D.ok] at h
  | .exc _ _, h => by simp [D.ok] at h
theorem D.pys_plain : ∀ ds : List D, D.oks ds = true → PyData.plainAll (D.pys ds) = true
  | [], _ => rfl
  | d :: ds, h => by
    have h' : d.ok = true ∧ D.oks ds = true := by simpa [D.oks] using h
    simp only [D.pys, PyData.plainAll, D.py_plain d h'.1, D.pys_plain ds h'.2, Bool.and_self]
end
section
variable {K : PySem.W.Frag} {G : Hp}
mutual
theorem DR.dp : ∀ (d : D) (v : V), d.ok = true → DR K G v d → Dp K G v d.py
  | .non, _, _, h => by cases h; exact .non
  | .bl _, _, _, h => by cases h; exact .bl _
  | .int _, _, _, h => by cases h; exact .int _
  | .str _, _, _, h => by cases h; exact .str _
  | .lst xs, _, o, h => by cases h with | lst h r => exact .lst h (DRs.dp xs _ (by simpa [D.ok] using o) r)
  | .tup xs, _, o, h => by cases h with | tup h r => exact .tup h (DRs.dp xs _ (by simpa [D.ok] using o) r)
  | .ty _, _, h, _ => by simp [D.ok] at h
  | .opq _, _, h, _ => by simp [D.ok] at h
  | .dic _, _, h, _ => by simp [D.ok] at h
  | .obj _ _, _, h, _ => by simp [D.ok] at h
  | .exc _ _, _, h, _ => by simp [D.ok] at h
theorem DRs.dp : ∀ (ds : List D) (vs : List V), D.oks ds = true → DRs K G vs ds → DpAll K G vs (D.pys ds)
  | [], _, _, h => by cases h; exact .nil
  | d :: ds, _, o, h => by
    have o' : d.ok = true ∧ D.oks ds = true := by simpa [D.oks] using o
    cases h with | cons h r => exact .cons (DR.dp d _ o'.1 h) (DRs.dp ds _ o'.2 r)
end
end

/-- values of a type as data -/
class DD (α : Type) [DecidableEq α] [PySem.W.Datum α] where
  d : α → D
  py : ∀ a, (d a).py = PySem.W.Datum.toD a
  ok : ∀ a, (d a).ok = true
instance : DD Int := ⟨.int, fun _ => rfl, fun _ => rfl⟩
instance : DD Bool := ⟨.bl, fun _ => rfl, fun _ => rfl⟩
instance : DD Str := ⟨.str, fun _ => rfl, fun _ => rfl⟩
section
variable {α β : Type} [DecidableEq α] [PySem.W.Datum α] [DD α] [DecidableEq β] [PySem.W.Datum β] [DD β]
theorem DD.pys : ∀ xs : List α, D.pys (xs.map DD.d) = xs.map PySem.W.Datum.toD
  | [] => rfl
  | x :: xs => by simp only [List.map_cons, D.pys, DD.py, DD.pys xs]
theorem DD.oks : ∀ xs : List α, D.oks (xs.map DD.d) = true
  | [] => rfl
  | x :: xs => by simp only [List.map_cons, D.oks, DD.ok, DD.oks xs, Bool.and_self]
instance : DD (List α) := ⟨fun xs => .lst (xs.map DD.d), fun xs => by simp only [D.py, DD.pys]; rfl, fun xs => by simp only [D.ok, DD.oks]⟩
instance : DD (α × β) := ⟨fun p => .tup [DD.d p.1, DD.d p.2], fun p => by simp only [D.py, D.pys, DD.py]; rfl, fun p => by simp only [D.ok, D.oks, DD.ok, Bool.and_self]⟩
end

section
variable {X : Cx} {ρ : List Sl} {e a b c o i : Expr} {es rest : List Expr} {d da db : D} {ds xs ys : List D} {m : MO} {pos p apos : Pos}
/-! ### ==, !=, in, not in -/
theorem op_eqP : OpR X (compareOp .Eq) (fun x y H Q => ∃ d e, Dp X.K H x d ∧ Dp X.K H y e ∧ d.plain = true ∧ e.plain = true ∧ X.A.units + min d.depth e.depth < cLine ∧ Q (.bl (PyData.eqv d e)) H) := by
  intro pins s σ H x y v u Q I rx ry h
  obtain ⟨d, e, hd, he, sd, se, hu, q⟩ := h
  obtain ⟨as, r1⟩ := Dp.reads I d x v hd rx
  obtain ⟨bs, r2⟩ := Dp.reads I e y u he ry
  exact PySem.SeqAt.eq_plain r1 r2 sd se hu ⟨.bl _, H, I, rfl, q⟩
theorem op_neP : OpR X (compareOp .NotEq) (fun x y H Q => ∃ d e, Dp X.K H x d ∧ Dp X.K H y e ∧ d.plain = true ∧ e.plain = true ∧ X.A.units + min d.depth e.depth < cLine ∧ Q (.bl (!PyData.eqv d e)) H) := by
  intro pins s σ H x y v u Q I rx ry h
  obtain ⟨d, e, hd, he, sd, se, hu, q⟩ := h
  obtain ⟨as, r1⟩ := Dp.reads I d x v hd rx
  obtain ⟨bs, r2⟩ := Dp.reads I e y u he ry
  exact PySem.SeqAt.ne_plain r1 r2 sd se hu ⟨.bl _, H, I, rfl, q⟩
theorem op_inP : OpR X (compareOp .In) (fun x y H Q => ∃ d es, Dp X.K H x d ∧ Dp X.K H y (.list es) ∧ d.plain = true ∧ PyData.plainAll es = true ∧ X.A.units + 1 + min (PyData.depthAll es) d.depth < cLine ∧ Q (.bl (es.any fun z => PyData.eqv z d)) H) := by
  intro pins s σ H x y v u Q I rx ry h
  obtain ⟨d, e, hd, he, sd, se, hu, q⟩ := h
  obtain ⟨as, r1⟩ := Dp.reads I d x v hd rx
  obtain ⟨bs, r2⟩ := Dp.reads I _ y u he ry
  exact PySem.SeqAt.in_list_data r2 r1 se sd hu ⟨.bl _, H, I, rfl, q⟩
theorem op_notInP : OpR X (compareOp .NotIn) (fun x y H Q => ∃ d es, Dp X.K H x d ∧ Dp X.K H y (.list es) ∧ d.plain = true ∧ PyData.plainAll es = true ∧ X.A.units + 1 + min (PyData.depthAll es) d.depth < cLine ∧ Q (.bl (!es.any fun z => PyData.eqv z d)) H) := by
  intro pins s σ H x y v u Q I rx ry h
  obtain ⟨d, e, hd, he, sd, se, hu, q⟩ := h
  obtain ⟨as, r1⟩ := Dp.reads I d x v hd rx
  obtain ⟨bs, r2⟩ := Dp.reads I _ y u he ry
  exact PySem.SeqAt.notIn_list_data r2 r1 se sd hu ⟨.bl _, H, I, rfl, q⟩
theorem dr_full {K : PySem.W.Frag} {Z : List Addr} {H : Hp} {v : V} (r : DR K (off Z H) v d) : DR K H v d := r.mono off_le
theorem c_eqP (h1 : da.ok = true) (h2 : db.ok = true) (hu : X.A.units + min da.py.depth db.py.depth < cLine) : CmpD X .Eq da db (PyData.eqv da.py db.py) := ⟨_, op_eqP, fun Z H x y Q r1 r2 k =>
  ⟨_, _, DR.dp _ _ h1 (dr_full r1), DR.dp _ _ h2 (dr_full r2), D.py_plain _ h1, D.py_plain _ h2, hu, k _ _ (Same.refl _) (.bl _)⟩⟩
theorem c_neP (h1 : da.ok = true) (h2 : db.ok = true) (hu : X.A.units + min da.py.depth db.py.depth < cLine) : CmpD X .NotEq da db (!PyData.eqv da.py db.py) := ⟨_, op_neP, fun Z H x y Q r1 r2 k =>
  ⟨_, _, DR.dp _ _ h1 (dr_full r1), DR.dp _ _ h2 (dr_full r2), D.py_plain _ h1, D.py_plain _ h2, hu, k _ _ (Same.refl _) (.bl _)⟩⟩
theorem c_inP (h1 : d.ok = true) (h2 : D.oks ds = true) (hu : X.A.units + 1 + min (PyData.depthAll (D.pys ds)) d.py.depth < cLine) : CmpD X .In d (.lst ds) ((D.pys ds).any fun z => PyData.eqv z d.py) := ⟨_, op_inP, fun Z H x y Q r1 r2 k =>
  ⟨_, _, DR.dp _ _ h1 (dr_full r1), DR.dp (.lst ds) _ (by simpa [D.ok] using h2) (dr_full r2), D.py_plain _ h1, D.pys_plain _ h2, hu, k _ _ (Same.refl _) (.bl _)⟩⟩
theorem c_notInP (h1 : d.ok = true) (h2 : D.oks ds = true) (hu : X.A.units + 1 + min (PyData.depthAll (D.pys ds)) d.py.depth < cLine) : CmpD X .NotIn d (.lst ds) (!(D.pys ds).any fun z => PyData.eqv z d.py) := ⟨_, op_notInP, fun Z H x y Q r1 r2 k =>
  ⟨_, _, DR.dp _ _ h1 (dr_full r1), DR.dp (.lst ds) _ (by simpa [D.ok] using h2) (dr_full r2), D.py_plain _ h1, D.pys_plain _ h2, hu, k _ _ (Same.refl _) (.bl _)⟩⟩
section
variable {α : Type} [DecidableEq α] [PySem.W.Datum α] [DD α]
theorem dd_depth (x : α) : (DD.d x).py.depth ≤ PySem.W.Datum.depth α := by rw [DD.py]; exact PySem.W.Datum.depth_le x
/-- typed -/
theorem c_eqT {x y : α} (hu : X.A.units + PySem.W.Datum.depth α < cLine) : CmpD X .Eq (DD.d x) (DD.d y) (decide (x = y)) := by
  have h := c_eqP (X := X) (DD.ok x) (DD.ok y) (by have := dd_depth x; have := Nat.min_le_left (DD.d x).py.depth (DD.d y).py.depth; omega)
  rw [DD.py, DD.py, PySem.W.Datum.eqv] at h
  exact h
theorem c_neT {x y : α} (hu : X.A.units + PySem.W.Datum.depth α < cLine) : CmpD X .NotEq (DD.d x) (DD.d y) (!decide (x = y)) := by
  have h := c_neP (X := X) (DD.ok x) (DD.ok y) (by have := dd_depth x; have := Nat.min_le_left (DD.d x).py.depth (DD.d y).py.depth; omega)
  rw [DD.py, DD.py, PySem.W.Datum.eqv] at h
  exact h
theorem c_inT {x : α} {xs : List α} (hu : X.A.units + 1 + PySem.W.Datum.depth α < cLine) : CmpD X .In (DD.d x) (.lst (xs.map DD.d)) (decide (x ∈ xs)) := by
  have h := c_inP (X := X) (DD.ok x) (DD.oks xs) (by have := dd_depth x; have := Nat.min_le_right (PyData.depthAll (D.pys (xs.map DD.d))) (DD.d x).py.depth; omega)
  rw [DD.py, DD.pys, PySem.W.any_datum] at h
  exact h
theorem c_notInT {x : α} {xs : List α} (hu : X.A.units + 1 + PySem.W.Datum.depth α < cLine) : CmpD X .NotIn (DD.d x) (.lst (xs.map DD.d)) (!decide (x ∈ xs)) := by
  have h := c_notInP (X := X) (DD.ok x) (DD.oks xs) (by have := dd_depth x; have := Nat.min_le_right (PyData.depthAll (D.pys (xs.map DD.d))) (DD.d x).py.depth; omega)
  rw [DD.py, DD.pys, PySem.W.any_datum] at h
  exact h
end

/-! ### length, items -/
theorem de_len (hm : X.mg "len" = none) (h : DE X ρ e d) {n : Nat} (hd : (d = .lst xs ∧ n = xs.length) ∨ (d = .tup xs ∧ n = xs.length)) (hg : Gl X "len" := by rfl)
    (he : starEach (e :: []) X.env = (false, eval e X.env) :: starEach [] X.env := by rfl) : DE X ρ (.Call (.Name "len" p) [e] [] pos) (.int n) :=
  de_callB call_len hg hm PySem.boot_len (da_cons h da_nil he) (fun Z H vs Q r _ k => by
    obtain ⟨v, rfl, r1⟩ := r.inv1
    rcases hd with ⟨rfl, rfl⟩ | ⟨rfl, rfl⟩
    · cases r1 with
      | lst hs ha => exact ⟨_, _, rfl, .inl ⟨_, hs.imp (rd_mono off_le) id, rfl⟩, by rw [ha.length]; exact k _ _ (Same.refl _) (.int _)⟩
    · cases r1 with
      | tup hs ha => exact ⟨_, _, rfl, .inr ⟨_, hs.imp (rd_mono off_le) id, rfl⟩, by rw [ha.length]; exact k _ _ (Same.refl _) (.int _)⟩) (he := he)
theorem de_lenL (hm : X.mg "len" = none) (h : DE X ρ e (.lst xs)) (hg : Gl X "len" := by rfl)
    (he : starEach (e :: []) X.env = (false, eval e X.env) :: starEach [] X.env := by rfl) : DE X ρ (.Call (.Name "len" p) [e] [] pos) (.int (xs.length : Int)) := de_len hm h (.inl ⟨rfl, rfl⟩) hg he
theorem de_lenT (hm : X.mg "len" = none) (h : DE X ρ e (.tup xs)) (hg : Gl X "len" := by rfl)
    (he : starEach (e :: []) X.env = (false, eval e X.env) :: starEach [] X.env := by rfl) : DE X ρ (.Call (.Name "len" p) [e] [] pos) (.int (xs.length : Int)) := de_len hm h (.inr ⟨rfl, rfl⟩) hg he
theorem de_lenS (hm : X.mg "len" = none) {z : Str} (h : DE X ρ e (.str z)) (hz : z.length ≤ sizeLine) (hg : Gl X "len" := by rfl)
    (he : starEach (e :: []) X.env = (false, eval e X.env) :: starEach [] X.env := by rfl) : DE X ρ (.Call (.Name "len" p) [e] [] pos) (.int (z.length : Int)) :=
  de_callB call_len hg hm PySem.boot_len (da_cons h da_nil he) (fun Z H vs Q r _ k => by
    obtain ⟨v, rfl, r1⟩ := r.inv1
    cases r1
    exact ⟨_, _, rfl, ⟨hz, rfl⟩, k _ _ (Same.refl _) (.int _)⟩) (he := he)
theorem atI_drs {K : PySem.W.Frag} {G : Hp} {vs : List V} {n : Int} (r : DRs K G vs ds) (h : atI ds n = some d) : ∃ v, atI vs n = some v ∧ DR K G v d := by
  unfold atI at h ⊢
  rw [← r.length] at h
  cases q : ixN vs.length n with
  | none => rw [q] at h; cases h
  | some j =>
    rw [q] at h
    exact r.get j h
theorem de_ixL {n : Int} (h : DE X ρ a (.lst ds)) (h' : DE X ρ b (.int n)) (q : atI ds n = some d) (hp : PlainIx b := by exact (fun _ _ => rfl)) : DE X ρ (.Subscript a b pos) d := fun B O σ H Q A k =>
  (pe_ix ix_list pe_se pe_se hp).se (h B O σ H _ A fun x H1 s1 r1 => h' B O σ H1 _ (A.grow s1) fun y H2 s2 r2 => by
    cases r1 with
    | lst hs ha =>
      cases r2
      obtain ⟨v, e, r⟩ := atI_drs ha q
      exact ⟨_, _, _, _, rfl, rfl, (s2.seq (hs.imp (rd_mono off_le) id)), e, k _ _ (s1.trans s2) (r.mono (off_same s2))⟩)
theorem de_ixT {n : Int} (h : DE X ρ a (.tup ds)) (h' : DE X ρ b (.int n)) (q : atI ds n = some d := by rfl) (hp : PlainIx b := by exact (fun _ _ => rfl)) : DE X ρ (.Subscript a b pos) d := fun B O σ H Q A k =>
  (pe_ix ix_tup pe_se pe_se hp).se (h B O σ H _ A fun x H1 s1 r1 => h' B O σ H1 _ (A.grow s1) fun y H2 s2 r2 => by
    cases r1 with
    | tup hs ha =>
      cases r2
      obtain ⟨v, e, r⟩ := atI_drs ha q
      exact ⟨_, _, _, _, rfl, rfl, sqt_mono s2 (hs.imp (rd_mono off_le) id), e, k _ _ (s1.trans s2) (r.mono (off_same s2))⟩)
theorem de_ixS {n : Int} {z : Str} {c : Nat} (h : DE X ρ a (.str z)) (h' : DE X ρ b (.int n)) (hz : z.length ≤ sizeLine) (q : atI z.cps.toList n = some c) (hp : PlainIx b := by exact (fun _ _ => rfl)) : DE X ρ (.Subscript a b pos) (.str ⟨#[c]⟩) := fun B O σ H Q A k =>
  (pe_ix ix_str pe_se pe_se hp).se (h B O σ H _ A fun x H1 s1 r1 => h' B O σ H1 _ (A.grow s1) fun y H2 s2 r2 => by
    cases r1; cases r2
    exact ⟨_, _, _, rfl, rfl, hz, q, k _ _ (s1.trans s2) (.str _)⟩)
theorem atI_in {α : Type} {xs : List α} {n : Int} {x : α} (h0 : 0 ≤ n) (h : xs[n.toNat]? = some x) : atI xs n = some x := by
  have e : n = ((n.toNat : Nat) : Int) := by omega
  rw [e]; exact atI_nat h

/-! ### new lists: a slice, xs + ys, xs * n, list(xs) -/
def cutD (xs : List D) (lo hi : Option Int) : List D := (xs.drop (HT.sIx xs.length 0 lo)).take (HT.sIx xs.length xs.length hi - HT.sIx xs.length 0 lo)
theorem cut_drs {K : PySem.W.Frag} {G : Hp} {vs : List V} {lo hi : Option Int} (r : DRs K G vs ds) : DRs K G (cutV vs lo hi) (cutD ds lo hi) := by
  unfold cutV cutD
  rw [r.length]
  exact (r.drop _).take _
/-- a part of a slice -/
def DO (X : Cx) (ρ : List Sl) (e : Option Expr) (o : Option Int) : Prop := match e, o with
  | none, none => True
  | some e, some i => DE X ρ e (.int i)
  | _, _ => False
theorem do_none : DO X ρ none none := trivial
theorem do_some {i : Int} (h : DE X ρ e (.int i)) : DO X ρ (some e) (some i) := h
def SO (X : Cx) (e : Option Expr) : TO := fun σ H Q => Hd (∀ (pins : List (Addr × Obj)) (s : Shared), Inv X pins σ H s → wpAny (model X.prog X.w) X.A (evalPart e X.env) (fun u s' => ∃ o H', Inv X pins σ H' s' ∧ IsPart u o ∧ Q o H') X.xe s)
theorem po_so {e : Option Expr} : PO X e (SO X e) := ⟨fun pins s σ H Q I h => h.run pins s I⟩
theorem DO.so {e : Option Expr} {o : Option Int} (h : DO X ρ e o) {B O : List Addr} {σ : L2.St} {H : Hp} {Q : Option Int → Hp → Prop} (A : At X.K B O σ H ρ) (k : ∀ H', Same H H' → Q o H') : SO X e σ H Q := by
  cases e with
  | none =>
    cases o with
    | none => exact ⟨fun pins s I => (po_none (X := X)).run pins s σ H Q I (k _ (Same.refl _))⟩
    | some i => exact h.elim
  | some e =>
    cases o with
    | none => exact h.elim
    | some i =>
      refine ⟨fun pins s I => (po_some (X := X) pe_se).run pins s σ H Q I ?_⟩
      exact DE.eq (d := .int i) h rfl B O σ H _ A fun v H' s' r => by cases r; exact ⟨_, rfl, k _ s'⟩
theorem df_slL {lo hi : Option Expr} {u w : Option Int} {p2 : Pos} (h : DE X ρ e (.lst ds)) (h1 : DO X ρ lo u) (h2 : DO X ρ hi w) : DF X ρ (.Subscript e (.Slice lo hi none p2) pos) (.lst (cutD ds u w)) := fun B O σ H Q A k =>
  (pe_slice sl_list pe_se po_so po_so).se (h B O σ H _ A fun x H1 s1 r1 => h1.so (A.grow s1) fun H2 s2 => h2.so (A.grow (s1.trans s2)) fun H3 s3 => by
    cases r1 with
    | lst hs ha => exact ⟨_, _, rfl, (s2.trans s3).seq (hs.imp (rd_mono off_le) id), fun p hp => k p _ _ (s1.free (s2.free (s3.free hp))) (s1.trans (s2.trans (s3.trans (same_upd hp)))) upd_same (.lst ((cut_drs ha).mono ((off_same (s2.trans s3)).trans (off_new hp))))⟩)
theorem de_slS {lo hi : Option Expr} {u w : Option Int} {p2 : Pos} {z : Str} (h : DE X ρ e (.str z)) (h1 : DO X ρ lo u) (h2 : DO X ρ hi w) (hz : z.length ≤ sizeLine) : DE X ρ (.Subscript e (.Slice lo hi none p2) pos) (.str (cutS z u w)) := fun B O σ H Q A k =>
  (pe_slice sl_str pe_se po_so po_so).se (h B O σ H _ A fun x H1 s1 r1 => h1.so (A.grow s1) fun H2 s2 => h2.so (A.grow (s1.trans s2)) fun H3 s3 => by
    cases r1
    exact ⟨_, rfl, hz, k _ _ (s1.trans (s2.trans s3)) (.str _)⟩)
theorem op_catL : OpR X (binaryOp .Add) (fun x y H Q => ∃ l b xs zs, x = .ref l ∧ y = .ref b ∧ SqL X.K H l xs ∧ SqL X.K H b zs ∧ xs.length + zs.length ≤ sizeLine ∧ ∀ p, H p = none → Q (.ref p) (upd H p (.lst (xs ++ zs)))) := by
  intro pins s σ H x y v u Q I rx ry h
  obtain ⟨l, b, xs, zs, rfl, rfl, hH, hB, hz, q⟩ := h
  cases rx
  cases ry
  obtain ⟨its, r, pl, z⟩ := I.list hH
  obtain ⟨its2, r2, pl2, z2⟩ := I.list hB
  have hl := r.length
  have hl2 := r2.length
  obtain ⟨⟨cls, dd, data, sl⟩, ho, hc, n, hd⟩ := id pl.isList
  obtain ⟨⟨cls2, dd2, data2, sl2⟩, ho2, hc2, n2, hd2⟩ := id pl2.isList
  simp only at hc hd hc2 hd2
  subst hc hd hc2 hd2
  have ea : its.toArray ++ its2.toArray = (its ++ its2).toArray := by simp
  refine concat_meets ⟨_, ho, rfl⟩ ⟨_, ho2, rfl⟩ noFill_list_add seq_list_add PySem.F.slot_list_add PySem.F.entry_list_add (PySem.F.args_list_add_2 _ _) (list_addW l b its.toArray its2.toArray n n2 dd dd2 sl sl2 (by rw [List.size_toArray, List.size_toArray]; omega)) ⟨ho, ho2, ?_⟩
  rw [ea]
  exact ⟨.ref _, _, I.lnew (t' := s.toks) (r.append r2) (by rw [List.length_append]; omega), rfl, q _ I.fresh⟩
theorem df_cat (h : DE X ρ a (.lst xs)) (h' : DE X ρ b (.lst ys)) (hl : xs.length + ys.length ≤ sizeLine) : DF X ρ (.BinOp a .Add b pos) (.lst (xs ++ ys)) :=
  df_op op_catL h h' fun Z H x y Q r1 r2 A k => by
    cases r1 with
    | lst h1 a1 =>
      cases r2 with
      | lst h2 a2 => exact ⟨_, _, _, _, rfl, rfl, h1.imp (rd_mono off_le) id, h2.imp (rd_mono off_le) id, by rw [a1.length, a2.length]; exact hl, fun p hp => k p _ _ hp (same_upd hp) upd_same (.lst ((a1.append a2).mono (off_new hp)))⟩
theorem drs_rep {K : PySem.W.Frag} {G : Hp} {vs : List V} (r : DRs K G vs ds) : ∀ n, DRs K G (List.replicate n vs).flatten (List.replicate n ds).flatten
  | 0 => .nil
  | n + 1 => by rw [List.replicate_succ, List.replicate_succ, List.flatten_cons, List.flatten_cons]; exact r.append (drs_rep r n)
theorem df_rep {n : Int} (h : DF X ρ a (.lst xs)) (h' : DE X ρ b (.int n)) (h1 : -(2 ^ 63) ≤ n) (h2 : n < 2 ^ 63) (hl : xs.length * n.toNat ≤ sizeLine) : DF X ρ (.BinOp a .Mult b pos) (.lst (List.replicate n.toNat xs).flatten) := fun B O σ H Q A k =>
  (pe_op op_rep pe_se pe_se).se (h B O σ H _ A fun l o H1 hn s1 e1 r1 => h' B O σ H1 _ (A.grow s1) fun y H2 s2 r2 => by
    cases r1 with
    | lst ha =>
      cases r2
      refine ⟨_, _, _, rfl, rfl, s2 _ _ e1, h1, h2, by rw [ha.length]; exact hl, fun p hp => k p _ _ (s1.free (s2.free hp)) (s1.trans (s2.trans (same_upd hp))) upd_same (.lst (drs_rep (ha.mono ?_) _))⟩
      exact ((off_sub fun b hb => List.mem_cons_of_mem _ hb).trans (off_same s2)).trans (off_new hp))
theorem df_listOf (hm : X.mg "list" = none) (h : DE X ρ e d) (hd : d = .lst xs ∨ d = .tup xs) (hg : Gl X "list" := by rfl)
    (he : starEach (e :: []) X.env = (false, eval e X.env) :: starEach [] X.env := by rfl) : DF X ρ (.Call (.Name "list" p) [e] [] pos) (.lst xs) :=
  df_callTy call_list_of hg hm (by decide +kernel) (da_cons h da_nil he) (fun Z H vs Q r A k => by
    obtain ⟨v, rfl, r1⟩ := r.inv1
    rcases hd with rfl | rfl
    · cases r1 with
      | lst hs ha => exact ⟨_, _, rfl, .inl (hs.imp (rd_mono off_le) id), fun p hp => k p _ _ hp (same_upd hp) upd_same (.lst (ha.mono (off_new hp)))⟩
    · cases r1 with
      | tup hs ha => exact ⟨_, _, rfl, .inr (hs.imp (rd_mono off_le) id), fun p hp => k p _ _ hp (same_upd hp) upd_same (.lst (ha.mono (off_new hp)))⟩) (he := he)
theorem df_listOfL (hm : X.mg "list" = none) (h : DE X ρ e (.lst xs)) (hg : Gl X "list" := by rfl) (he : starEach (e :: []) X.env = (false, eval e X.env) :: starEach [] X.env := by rfl) : DF X ρ (.Call (.Name "list" p) [e] [] pos) (.lst xs) := df_listOf hm h (.inl rfl) hg he

/-! ### built-ins over numbers -/
theorem de_abs {n : Int} (hm : X.mg "abs" = none) (h : DE X ρ e (.int n)) (hg : Gl X "abs" := by rfl) (he : starEach (e :: []) X.env = (false, eval e X.env) :: starEach [] X.env := by rfl) :
    DE X ρ (.Call (.Name "abs" p) [e] [] pos) (.int (if n < 0 then -n else n)) :=
  de_callB call_abs hg hm (by decide +kernel) (da_cons h da_nil he) (fun Z H vs Q r _ k => by
    obtain ⟨v, rfl, r1⟩ := r.inv1
    cases r1
    exact ⟨_, rfl, k _ _ (Same.refl _) (.int _)⟩) (he := he)
theorem de_int1 {n : Int} (hm : X.mg "int" = none) (h : DE X ρ e (.int n)) (hg : Gl X "int" := by rfl) (he : starEach (e :: []) X.env = (false, eval e X.env) :: starEach [] X.env := by rfl) :
    DE X ρ (.Call (.Name "int" p) [e] [] pos) (.int n) :=
  de_callTy call_int1 hg hm (by decide +kernel) (da_cons h da_nil he) (fun Z H vs Q r _ k => by
    obtain ⟨v, rfl, r1⟩ := r.inv1
    cases r1
    exact .inl ⟨_, rfl, k _ _ (Same.refl _) (.int _)⟩) (he := he)
theorem de_min2 {m n : Int} (hc : X.calm = true) (hm : X.mg "min" = none) (h : DE X ρ a (.int m)) (h' : DE X ρ b (.int n)) (hg : Gl X "min" := by rfl) (he : starEach (a :: [b]) X.env = (false, eval a X.env) :: starEach [b] X.env := by rfl)
    (he2 : starEach (b :: []) X.env = (false, eval b X.env) :: starEach [] X.env := by rfl) (hpl : (backTo pos (starEach [b] X.env)).any (·.1) = false := by rfl) :
    DE X ρ (.Call (.Name "min" p) [a, b] [] pos) (.int (if n < m then n else m)) :=
  de_callB (call_min2 hc) hg hm (by decide +kernel) (da_cons h (da_cons h' da_nil he2) he) (fun Z H vs Q r _ k => by
    obtain ⟨v, w, rfl, r1, r2⟩ := r.inv2
    cases r1; cases r2
    exact ⟨_, _, rfl, k _ _ (Same.refl _) (.int _)⟩) (he := he) (hpl := hpl)
theorem de_max2 {m n : Int} (hc : X.calm = true) (hm : X.mg "max" = none) (h : DE X ρ a (.int m)) (h' : DE X ρ b (.int n)) (hg : Gl X "max" := by rfl) (he : starEach (a :: [b]) X.env = (false, eval a X.env) :: starEach [b] X.env := by rfl)
    (he2 : starEach (b :: []) X.env = (false, eval b X.env) :: starEach [] X.env := by rfl) (hpl : (backTo pos (starEach [b] X.env)).any (·.1) = false := by rfl) :
    DE X ρ (.Call (.Name "max" p) [a, b] [] pos) (.int (if n > m then n else m)) :=
  de_callB (call_max2 hc) hg hm (by decide +kernel) (da_cons h (da_cons h' da_nil he2) he) (fun Z H vs Q r _ k => by
    obtain ⟨v, w, rfl, r1, r2⟩ := r.inv2
    cases r1; cases r2
    exact ⟨_, _, rfl, k _ _ (Same.refl _) (.int _)⟩) (he := he) (hpl := hpl)
theorem de_sum {ns : List Int} (hc : X.calm = true) (hm : X.mg "sum" = none) (h : DE X ρ e (.lst (ns.map .int))) (hg : Gl X "sum" := by rfl) (he : starEach (e :: []) X.env = (false, eval e X.env) :: starEach [] X.env := by rfl) :
    DE X ρ (.Call (.Name "sum" p) [e] [] pos) (.int ns.sum) :=
  de_callB (cr_sum hc) hg hm (by decide +kernel) (da_cons h da_nil he) (fun Z H vs Q r _ k => by
    obtain ⟨v, rfl, r1⟩ := r.inv1
    cases r1 with
    | lst hs ha =>
      obtain rfl := ha.ints
      exact ⟨_, _, rfl, hs.imp (rd_mono off_le) id, k _ _ (Same.refl _) (.int _)⟩) (he := he)
/-! ### texts -/
theorem de_join {z : Str} {ys : List Str} (h : DE X ρ o (.str z)) (h' : DE X ρ e (.lst (ys.map .str))) (hz : (ys.map (·.length)).sum + ys.length * z.length ≤ 16777216)
    (hs : starEach [e] X.env = [(false, eval e X.env)] := by rfl) (hb : attributeBase o "join" X.env (eval o X.env) = eval o X.env := by rfl) (hl : (apos.endLine == pos.line) = true := by rfl) :
    DE X ρ (.Call (.Attribute o "join" apos) [e] [] pos) (.str (Txt.join z ys)) := fun B O σ H Q A k =>
  (pe_join pe_se pe_se hs hb hl).se (h B O σ H _ A fun x H1 s1 r1 => by
    cases r1
    refine ⟨⟨_, rfl⟩, h' B O σ H1 _ (A.grow s1) fun y H2 s2 r2 => ?_⟩
    cases r2 with
    | lst hs ha =>
      obtain rfl := ha.strs
      exact ⟨_, _, _, rfl, rfl, .inl (hs.imp (rd_mono off_le) id), hz, k _ _ (s1.trans s2) (.str _)⟩)
end
end DL
set_option Elab.async false
set_option linter.all false
set_option maxRecDepth 100000
set_option maxHeartbeats 1000000
/-! DL4: targets, things walked, statements, comprehensions, defs and calls, by data. -/
namespace DL
open PySem PySem.Spec PyProof.Rows L2

def SS (X : Cx) (st : Stmt) : TS := fun D σ H => Hd (∀ (pins : List (Addr × Obj)) (s : Shared), Inv X pins σ H s → wpAny (model X.prog X.w) X.A (exec st X.env) (SP X pins D) X.xe s)
def SSs (X : Cx) (st : List Stmt) : TS := fun D σ H => Hd (∀ (pins : List (Addr × Obj)) (s : Shared), Inv X pins σ H s → wpAny (model X.prog X.w) X.A (execs st X.env) (SP X pins D) X.xe s)
def SI (X : Cx) (tg iter : Expr) : TI := fun σ H R => Hd (∀ (pins : List (Addr × Obj)) (s : Shared), Inv X pins σ H s →
  wpAny (model X.prog X.w) X.A (eval iter X.env) (fun v s1 => wpAny (model X.prog X.w) X.A (pyIter v) (PIE X pins σ tg R) X.xe s1) X.xe s)
def SGs (X : Cx) (ts : List Expr) : TGs := fun vs σ H Q => Hd (∀ (pins : List (Addr × Obj)) (s : Shared) (us : List Value), Inv X pins σ H s → Vals vs us →
  wpAny (model X.prog X.w) X.A (assignInOrder ((assignEach ts X.env).map (·.2)) us) (fun _ s' => ∃ σ' H', Inv X pins σ' H' s' ∧ Q σ' H') X.xe s)
def STs (X : Cx) (ifs : List Expr) : TT := fun σ H Q => Hd (∀ (pins : List (Addr × Obj)) (s : Shared), Inv X pins σ H s →
  wpAny (model X.prog X.w) X.A (forIn ifs true fun c r => if r = true then do let ok ← isTrue c X.env (eval c X.env); pure (ForInStep.yield ok) else pure (ForInStep.yield r)) (TP X pins σ Q) X.xe s)
theorem ps_ss {X : Cx} {st : Stmt} : PS X st (SS X st) := ⟨fun pins s σ H D I h => h.run pins s I⟩
theorem pss_ss {X : Cx} {st : List Stmt} : PSs X st (SSs X st) := ⟨fun pins s σ H D I h => h.run pins s I⟩
theorem pi_si {X : Cx} {tg iter : Expr} : PI X tg iter (SI X tg iter) := ⟨fun pins s σ H R I h => h.run pins s I⟩
theorem pgs_sg {X : Cx} {ts : List Expr} : PGs X ts (SGs X ts) := ⟨fun pins s σ H vs us Q I r h => h.run pins s us I r⟩
theorem pts_st {X : Cx} {ifs : List Expr} : PTs X ifs (STs X ifs) := ⟨fun pins s σ H Q I h => h.run pins s I⟩
theorem _root_.L2.PS.ss {X : Cx} {st : Stmt} {t : TS} (h : PS X st t) {D : Ends} {σ : L2.St} {H : Hp} (q : t D σ H) : SS X st D σ H := ⟨fun pins s I => h.run pins s σ H D I q⟩
theorem _root_.L2.PSs.ss {X : Cx} {st : List Stmt} {t : TS} (h : PSs X st t) {D : Ends} {σ : L2.St} {H : Hp} (q : t D σ H) : SSs X st D σ H := ⟨fun pins s I => h.run pins s σ H D I q⟩
theorem _root_.L2.PI.si {X : Cx} {tg iter : Expr} {t : TI} (h : PI X tg iter t) {σ : L2.St} {H : Hp} {R : It → Hp → Prop} (q : t σ H R) : SI X tg iter σ H R := ⟨fun pins s I => h.run pins s σ H R I q⟩
theorem _root_.L2.PGs.sg {X : Cx} {ts : List Expr} {t : TGs} (h : PGs X ts t) {vs : List V} {σ : L2.St} {H : Hp} {Q : L2.St → Hp → Prop} (q : t vs σ H Q) : SGs X ts vs σ H Q := ⟨fun pins s us I r => h.run pins s σ H vs us Q I r q⟩
theorem _root_.L2.PTs.st {X : Cx} {ifs : List Expr} {t : TT} (h : PTs X ifs t) {σ : L2.St} {H : Hp} {Q : Bool → Hp → Prop} (q : t σ H Q) : STs X ifs σ H Q := ⟨fun pins s I => h.run pins s σ H Q I q⟩

/-! ### targets -/
/-- tg takes d: from ρ to ρ'; the slots `is` alone change -/
def DG (X : Cx) (ρ : List Sl) (tg : Expr) (d : D) (is : List Nat) (ρ' : List Sl) : Prop := ∀ B O σ H v (Q : L2.St → Hp → Prop), At X.K B O σ H ρ → DR X.K (off (O ++ B) H) v d →
  (∀ σ', At X.K B O σ' H ρ' → (∀ vs : List Nat, (∀ i ∈ is, i ∈ vs) → wipe σ' vs = wipe σ vs) → Q σ' H) → SG X tg v σ H Q
def DGs (X : Cx) (ρ : List Sl) (ts : List Expr) (ds : List D) (is : List Nat) (ρ' : List Sl) : Prop := ∀ B O σ H vs (Q : L2.St → Hp → Prop), At X.K B O σ H ρ → DRs X.K (off (O ++ B) H) vs ds →
  (∀ σ', At X.K B O σ' H ρ' → (∀ vs : List Nat, (∀ i ∈ is, i ∈ vs) → wipe σ' vs = wipe σ vs) → Q σ' H) → SGs X ts vs σ H Q
theorem wipe_set {σ : L2.St} {i : Nat} {x : Option V} : ∀ {vs : List Nat}, i ∈ vs → wipe (σ.set i x) vs = wipe σ vs
  | [], h => by cases h
  | v :: vs, h => by
    unfold wipe
    by_cases hv : i ∈ vs
    · rw [wipe_set hv]
    · have e : i = v := by
        rcases List.mem_cons.mp h with h | h
        · exact h
        · exact absurd h hv
      subst e
      have aux : ∀ (ws : List Nat), i ∉ ws → wipe (σ.set i x) ws = (wipe σ ws).set i x := by
        intro ws
        induction ws with
        | nil => intro _; rfl
        | cons w ws ih =>
          intro hn
          unfold wipe
          rw [ih fun q => hn (List.mem_cons_of_mem _ q), List.set_comm]
          intro q; subst q; exact hn List.mem_cons_self
      rw [aux vs hv, List.set_set]
section
variable {X : Cx} {ρ ρ' ρ'' : List Sl} {e a b c o : Expr} {es : List Expr} {d : D} {ds items : List D} {m : MO} {pos p apos : Pos}
theorem dg_name (i : Nat) {x : Str} (hN : X.N.Nodup) (hn : ∀ m, ρ[i]? ≠ some (.own m) := by intro m h; cases h) (hi : X.N[i]? = some x := by rfl) (hl : Loc X.env.scope x := by first | exact .inl rfl | exact .inr rfl)
    (hf : X.fn x = true ∨ X.env.scope.names.lookup x = some .local := by first | exact .inl rfl | exact .inr rfl) : DG X ρ (.Name x pos) d [i] (ρ.set i (.dat d)) := fun B O σ H v Q A r k =>
  (pg_name hN hi hl hf).sg (k _ ⟨A.sl.set' r i hn, A.al, A.dj⟩ fun vs h => wipe_set (h i List.mem_cons_self))
theorem dgs_nil : DGs X ρ [] [] [] ρ := fun B O σ H vs Q A r k => by
  cases r
  exact pgs_nil.sg ⟨rfl, k _ A fun _ _ => rfl⟩
theorem dgs_cons {is js : List Nat} (h : DG X ρ e d is ρ') (h' : DGs X ρ' es ds js ρ'') (hs : (assignEach (e :: es) X.env).map (·.2) = assign e X.env :: (assignEach es X.env).map (·.2) := by rfl) : DGs X ρ (e :: es) (d :: ds) (is ++ js) ρ'' := fun B O σ H vs Q A r k => by
  cases r with
  | cons r1 r2 =>
    refine (pgs_cons pg_sg pgs_sg hs).sg ⟨_, _, rfl, h B O σ H _ _ A r1 fun σ' A' w => h' B O σ' H _ _ A' r2 fun σ'' A'' w' => k _ A'' fun ws hw => ?_⟩
    rw [w' ws fun i hi => hw i (List.mem_append_right _ hi), w ws fun i hi => hw i (List.mem_append_left _ hi)]
theorem dg_tup {k : Nat} {is : List Nat} (hc : X.calm = true) (h : DGs X ρ es ds is ρ') {n : Nat} (hl : ds.length = n := by rfl) (hn : (assignEach es X.env).length = n := by rfl) (hst : (assignEach es X.env).findIdx? (·.1) = none := by rfl) :
    DG X ρ (.Tuple es k pos) (.tup ds) is ρ' := fun B O σ H v Q A r k => by
  cases r with
  | tup hs ha => exact (pg_tup hc pgs_sg hn hst).sg ⟨_, _, rfl, hs.imp (rd_mono off_le) id, by rw [ha.length]; exact hl, h B O σ H _ _ A ha k⟩

/-! ### what is walked -/
structure JOk (K : PySem.W.Frag) (G0 : Hp) (J : It) (items : List D) : Prop where
  go : ∀ B O H, Same G0 (off (O ++ B) H) → Al (O ++ B) H → ∀ (i : Nat) d, items[i]? = some d → J.go i H ∧ ∀ x H', J.yld i H x H' → Same H H' ∧ DR K (off (O ++ B) H') x d
  stop : ∀ B O H, Same G0 (off (O ++ B) H) → ∀ i : Nat, items.length ≤ i → J.stop i H
def DI (X : Cx) (ρ : List Sl) (tg it : Expr) (items : List D) : Prop := ∀ B O σ H (R : It → Hp → Prop), At X.K B O σ H ρ → (∀ J H', Same H H' → JOk X.K (off (O ++ B) H') J items → R J H') → SI X tg it σ H R
theorem di_list {tg it : Expr} (h : DE X ρ it (.lst items)) : DI X ρ tg it items := fun B O σ H R A k =>
  (pi_list pe_se).si (h B O σ H _ A fun v H1 s1 r1 => by
    cases r1 with
    | @lst a xs _ hs ha =>
      refine ⟨_, rfl, ⟨_, hs.imp (rd_mono off_le) id⟩, k _ _ s1 ⟨fun B' O' H2 g al i d hd => ?_, fun B' O' H2 g i hi => ?_⟩⟩
      · obtain ⟨v, ev, rv⟩ := ha.get i hd
        have hs' : SqL X.K H2 a xs := (g.trans off_le).seq hs
        exact ⟨⟨_, _, hs', ev⟩, fun x H3 ⟨e, hx⟩ => by subst e; exact ⟨Same.refl _, by
          have e2 := hx _ hs'
          rw [ev] at e2; cases e2; exact rv.mono g⟩⟩
      · exact ⟨_, (g.trans off_le).seq hs, by rw [ha.length]; exact hi⟩)
theorem di_tup {tg it : Expr} (h : DE X ρ it (.tup items)) : DI X ρ tg it items := fun B O σ H R A k =>
  (pi_tup pe_se).si (h B O σ H _ A fun v H1 s1 r1 => by
    cases r1 with
    | @tup a xs _ hs ha =>
      refine ⟨_, rfl, ⟨_, hs.imp (rd_mono off_le) id⟩, k _ _ s1 ⟨fun B' O' H2 g al i d hd => ?_, fun B' O' H2 g i hi => ?_⟩⟩
      · obtain ⟨v, ev, rv⟩ := ha.get i hd
        have hs' : SqT X.K H2 a xs := sqt_mono (g.trans off_le) hs
        exact ⟨⟨_, _, hs', ev⟩, fun x H3 ⟨e, hx⟩ => by subst e; exact ⟨Same.refl _, by
          have e2 := hx _ hs'
          rw [ev] at e2; cases e2; exact rv.mono g⟩⟩
      · exact ⟨_, sqt_mono (g.trans off_le) hs, by rw [ha.length]; exact hi⟩)
/-- the ints of a range -/
def rangeD (lo : Int) (n : Nat) : List D := (List.range n).map fun (k : Nat) => D.int (lo + (k : Int))
theorem rangeD_get {lo : Int} {n i : Nat} {d : D} (h : (rangeD lo n)[i]? = some d) : i < n ∧ d = .int (lo + (i : Int)) := by
  unfold rangeD at h
  rw [List.getElem?_map] at h
  by_cases hi : i < n
  · rw [List.getElem?_range hi] at h; simp at h; exact ⟨hi, h.symm⟩
  · rw [List.getElem?_eq_none (by simp; omega)] at h; simp at h
theorem rangeD_len {lo : Int} {n : Nat} : (rangeD lo n).length = n := by simp [rangeD]
theorem jok_range {K : PySem.W.Frag} {G0 : Hp} {lo : Int} {n : Nat} : JOk K G0 (Itr lo n) (rangeD lo n) :=
  ⟨fun B O H g al i d hd => by
    obtain ⟨hi, rfl⟩ := rangeD_get hd
    exact ⟨hi, fun x H' ⟨e, hx⟩ => by subst e; subst hx; exact ⟨Same.refl _, .int _⟩⟩, fun B O H g i hi => by rw [rangeD_len] at hi; exact hi⟩
theorem di_range1 {tg : Expr} {n : Int} (hm : X.mg "range" = none) (h : DE X ρ a (.int n)) (h1 : -(2 ^ 62) ≤ n) (h2 : n < 2 ^ 62) (hg : Gl X "range" := by rfl) (hs : starEach [a] X.env = [(false, eval a X.env)] := by rfl)
    : DI X ρ tg (.Call (.Name "range" p) [a] [] pos) (rangeD 0 n.toNat) := fun B O σ H R A k =>
  (pi_range1 hg hm pa_sa hs).si (da_cons h da_nil hs B O σ H _ A fun vs H1 s1 r1 => by
    obtain ⟨v, rfl, r⟩ := r1.inv1
    cases r
    exact ⟨_, rfl, h1, h2, k _ _ s1 jok_range⟩)
theorem di_range2 {tg : Expr} {m n : Int} (hm : X.mg "range" = none) (h : DE X ρ a (.int m)) (h' : DE X ρ b (.int n)) (hb : -(2 ^ 62) ≤ m ∧ m < 2 ^ 62 ∧ -(2 ^ 62) ≤ n ∧ n < 2 ^ 62) (hg : Gl X "range" := by rfl)
    (hs : starEach [a, b] X.env = [(false, eval a X.env), (false, eval b X.env)] := by rfl) (hs2 : starEach [b] X.env = [(false, eval b X.env)] := by rfl) : DI X ρ tg (.Call (.Name "range" p) [a, b] [] pos) (rangeD m (n - m).toNat) := fun B O σ H R A k =>
  (pi_range2 hg hm pa_sa hs hs2).si (da_cons h (da_cons h' da_nil hs2) (by rw [hs, hs2]) B O σ H _ A fun vs H1 s1 r1 => by
    obtain ⟨v, w, rfl, r, r'⟩ := r1.inv2
    cases r; cases r'
    exact ⟨_, _, rfl, hb, k _ _ s1 jok_range⟩)
end

/-! ### ends -/
structure DEnds where
  nx : List Sl → Prop
  rt : D → Prop := fun _ => False
  rm : MO → Prop := fun _ => False
  bk : List Sl → Prop := fun _ => False
  ct : List Sl → Prop := fun _ => False
  ex : Addr → Option (List (Str × D)) → List Sl → Prop := fun _ _ _ => False
/-- what an exception bears beside its class -/
inductive ExcD (K : PySem.W.Frag) (G : Hp) : Option Addr → Option (List (Str × D)) → Prop
  | none : ExcD K G none none
  | some {d : Addr} {fs : List (Str × V)} {gs : List (Str × D)} : G d = some (.xd fs) → DRf K G fs gs → ExcD K G (some d) (some gs)
theorem ExcD.mono {K : PySem.W.Frag} {G G' : Hp} {od : Option Addr} {fs : Option (List (Str × D))} (s : Same G G') (h : ExcD K G od fs) : ExcD K G' od fs := by
  cases h with
  | none => exact .none
  | some e r => exact .some (s _ _ e) (r.mono s)
structure Cov (K : PySem.W.Frag) (B : List Addr) (H0 : Hp) (De : Ends) (W : WX) (D : DEnds) : Prop where
  nx : ∀ ρ O σ H, D.nx ρ → At K B O σ H ρ → Same H0 (off O H) → De.nx σ H
  rt : ∀ d v H, D.rt d → DR K (off B H) v d → Same H0 H → De.rt v H
  rm : ∀ m p o H, D.rm m → H0 p = none → H p = some o → MR K (off (p :: B) H) p o m → Same H0 H → De.rt (.ref p) H
  bk : ∀ ρ O σ H, D.bk ρ → At K B O σ H ρ → Same H0 (off O H) → De.bk σ H
  ct : ∀ ρ O σ H, D.ct ρ → At K B O σ H ρ → Same H0 (off O H) → De.ct σ H
  ex : ∀ C fs ρ O σ H od, D.ex C fs ρ → At K B O σ H ρ → Same H0 (off O H) → ExcD K (off (O ++ B) H) od fs → W (.ref C) od σ H
theorem takes_noneN {X : Cx} : L2N.Takes X (fun _ _ _ _ => False) := fun _ _ ⟨_, _, _, _, _, _, _, _, _, _, _, _, _, _, _, _, w⟩ => w.elim
def DS (X : Cx) (ρ : List Sl) (st : Stmt) (D : DEnds) : Prop := ∀ B O σ H H0 De W, L2N.Takes X W → At X.K B O σ H ρ → Same H0 (off O H) → Cov X.K B H0 De W D → SS X st De σ H
def DSs (X : Cx) (ρ : List Sl) (st : List Stmt) (D : DEnds) : Prop := ∀ B O σ H H0 De W, L2N.Takes X W → At X.K B O σ H ρ → Same H0 (off O H) → Cov X.K B H0 De W D → SSs X st De σ H
section
variable {X : Cx} {ρ ρ' ρ'' : List Sl} {e a b c o value : Expr} {es : List Expr} {d : D} {ds items : List D} {m : MO} {pos p apos pos' : Pos} {st : Stmt} {rest body : List Stmt} {D : DEnds} {K : PySem.W.Frag} {B O O' : List Addr} {σ : L2.St} {H H1 H2 H0 : Hp} {De : Ends}
theorem Cov.weak {H0' : Hp} {W : WX} (C : Cov K B H0 De W D) (s : Same H0 H0') : Cov K B H0' De W D :=
  ⟨fun ρ O σ H h A q => C.nx ρ O σ H h A (s.trans q), fun d v H h r q => C.rt d v H h r (s.trans q), fun m p o H h n e r q => C.rm m p o H h (s.free n) e r (s.trans q), fun ρ O σ H h A q => C.bk ρ O σ H h A (s.trans q), fun ρ O σ H h A q => C.ct ρ O σ H h A (s.trans q), fun c fs ρ O σ H od h A q => C.ex c fs ρ O σ H od h A (s.trans q)⟩
theorem At.sub (A : At K B O σ H ρ) (hs : ∀ b ∈ O', b ∈ O) {ρ' : List Sl} {σ' : L2.St} (h : Slots K H (off (O ++ B) H) σ' ρ' O') : At K B O' σ' H ρ' :=
  ⟨h.mono (fun _ _ _ e => e) (off_sub fun b hb => (List.mem_append.mp hb).elim (fun q => List.mem_append_left _ (hs b q)) (List.mem_append_right _)), A.al, fun b hb => A.dj b (hs b hb)⟩
theorem keep_grow (s0 : Same H0 (off O H)) (s : Same H H1) : Same H0 (off O H1) := s0.trans (off_same s)
theorem dss_nil (k : D.nx ρ) : DSs X ρ [] D := fun B O σ H H0 De W T A s0 C => pss_nil.ss (C.nx _ _ _ _ k A s0)
theorem dss_st (h : DS X ρ st { D with nx := fun ρ' => DSs X ρ' rest D }) : DSs X ρ (st :: rest) D := fun B O σ H H0 De W T A s0 C =>
  (pss_cons ps_ss pss_ss).ss (h B O σ H H0 { De with nx := fun σ H => SSs X rest De σ H } W T A s0 ⟨fun ρ O σ H h A q => h B O σ H H0 De W T A q C, C.rt, C.rm, C.bk, C.ct, C.ex⟩)
theorem DSs.mono {D' : DEnds} (h : DSs X ρ body D) (h1 : ∀ ρ, D.nx ρ → D'.nx ρ) (h2 : ∀ d, D.rt d → D'.rt d) (h3 : ∀ d, D.rm d → D'.rm d) (h4 : ∀ ρ, D.bk ρ → D'.bk ρ) (h5 : ∀ ρ, D.ct ρ → D'.ct ρ) (h6 : ∀ c fs ρ, D.ex c fs ρ → D'.ex c fs ρ) : DSs X ρ body D' := fun B O σ H H0 De W T A s0 C =>
  h B O σ H H0 De W T A s0 ⟨fun ρ O σ H q => C.nx ρ O σ H (h1 _ q), fun d v H q => C.rt d v H (h2 _ q), fun m p o H q => C.rm m p o H (h3 _ q), fun ρ O σ H q => C.bk ρ O σ H (h4 _ q), fun ρ O σ H q => C.ct ρ O σ H (h5 _ q), fun c fs ρ O σ H od q => C.ex c fs ρ O σ H od (h6 _ _ _ q)⟩
/-- an owned object is data from here on -/
theorem dss_freeze (i : Nat) {m : MO} (k : DSs X (ρ.set i (.dat m.d)) body D) (hρ : ρ[i]? = some (.own m) := by rfl) : DSs X ρ body D := fun B O σ H H0 De W T A s0 C => by
  obtain ⟨a, O', h1, h2, h3, h4, q⟩ := A.sl.freeze hρ
  have sb : Same (off (O ++ B) H) (off (O' ++ B) H) := off_sub fun b hb => (List.mem_append.mp hb).elim (fun q => List.mem_append_left _ (h4 b q)) (List.mem_append_right _)
  refine k B O' σ H H0 De W T ⟨q _ sb (off_ne fun z => (List.mem_append.mp z).elim h2 (A.dj a h1)), A.al, fun b hb => A.dj b (h4 b hb)⟩ (s0.trans (off_sub h4)) C
/-- slots forgotten -/
def Sl.isDat : Sl → Bool
  | .dat _ => true
  | _ => false
def Le : List Sl → List Sl → Prop
  | [], [] => True
  | s :: r, s' :: r' => (s' = s ∨ (s' = .emp ∧ s.isDat = true)) ∧ Le r r'
  | _, _ => False
theorem Le.refl : ∀ ρ, Le ρ ρ
  | [] => trivial
  | _ :: r => ⟨.inl rfl, Le.refl r⟩
theorem Slots.le {G : Hp} (h : Slots K H G σ ρ O) : ∀ {ρ' : List Sl}, Le ρ ρ' → Slots K H G σ ρ' O := by
  induction h with
  | nil =>
    intro ρ' l
    cases ρ' with
    | nil => exact .nil
    | cons _ _ => exact l.elim
  | emp h ih =>
    intro ρ' l
    cases ρ' with
    | nil => exact l.elim
    | cons s r =>
      obtain ⟨l1, l2⟩ := l
      rcases l1 with rfl | ⟨rfl, _⟩
      · exact .emp (ih l2)
      · exact .emp (ih l2)
  | dat r' h ih =>
    intro ρ' l
    cases ρ' with
    | nil => exact l.elim
    | cons s r =>
      obtain ⟨l1, l2⟩ := l
      rcases l1 with rfl | ⟨rfl, _⟩
      · exact .dat r' (ih l2)
      · exact .emp (ih l2)
  | own e m n h ih =>
    intro ρ' l
    cases ρ' with
    | nil => exact l.elim
    | cons s r =>
      obtain ⟨l1, l2⟩ := l
      rcases l1 with rfl | ⟨_, l1⟩
      · exact .own e m n (ih l2)
      · cases l1
theorem At.le (A : At K B O σ H ρ) {ρ' : List Sl} (l : Le ρ ρ') : At K B O σ H ρ' := ⟨A.sl.le l, A.al, A.dj⟩
theorem dss_le {ρ' : List Sl} (l : Le ρ ρ') (k : DSs X ρ' body D) : DSs X ρ body D := fun B O σ H H0 De W T A s0 C => k B O σ H H0 De W T (A.le l) s0 C
/-- up to forgetting -/
def Up (M : List Sl → Prop) (ρ : List Sl) : Prop := ∃ ρ', Le ρ ρ' ∧ M ρ'
theorem Up.of {M : List Sl → Prop} (h : M ρ) : Up M ρ := ⟨ρ, Le.refl ρ, h⟩
theorem ds_cut (M : List Sl → Prop) (h : DS X ρ st { D with nx := Up M }) (k : ∀ ρ', M ρ' → D.nx ρ') : DS X ρ st D := fun B O σ H H0 De W T A s0 C =>
  h B O σ H H0 De W T A s0 ⟨fun ρ O σ H ⟨ρ', l, hm⟩ A q => C.nx ρ' O σ H (k _ hm) (A.le l) q, C.rt, C.rm, C.bk, C.ct, C.ex⟩
/-- x = e -/
theorem ds_set (i : Nat) {x : Str} (hN : X.N.Nodup) (he : DE X ρ e d) (k : D.nx (ρ.set i (.dat d))) (hi : X.N[i]? = some x := by rfl) (hl : Loc X.env.scope x := by first | exact .inl rfl | exact .inr rfl)
    (hs : swapsWith e (some (.Name x pos')) pos.line X.env = pure false := by rfl) (hf : X.fn x = true ∨ X.env.scope.names.lookup x = some .local := by first | exact .inl rfl | exact .inr rfl) : DS X ρ (.Assign [.Name x pos'] e pos) D := fun B O σ H H0 De W T A s0 C =>
  (ps_set hN hi hl pe_se hs hf).ss (he B O σ H _ A fun v H1 s1 r1 => by
    obtain ⟨O', hO, hS⟩ := (A.grow s1).sl.set r1 i
    exact C.nx _ O' _ _ k ((A.grow s1).sub hO hS) ((keep_grow s0 s1).trans (off_sub hO)))
theorem ds_asg {tg : Expr} {is : List Nat} (he : DE X ρ e d) (hg : DG X ρ tg d is ρ') (k : D.nx ρ') (h1 : swapsWithSole [tg] e pos.line X.env = pure false := by rfl) (h2 : swappedStores [tg] e X.env = pure none := by rfl)
    (h3 : (assignEach [tg] X.env).map (·.2) = [assign tg X.env] := by rfl) : DS X ρ (.Assign [tg] e pos) D := fun B O σ H H0 De W T A s0 C =>
  (ps_asg pe_se pg_sg h1 h2 h3).ss (he B O σ H _ A fun v H1 s1 r1 => hg B O σ H1 v _ (A.grow s1) r1 fun σ' A' _ => C.nx _ O _ _ k A' (keep_grow s0 s1))
theorem At.own (A : At K B O σ H ρ) (s0 : Same H0 (off O H)) {p : Addr} {o : HO} (hn : H p = none) (s1 : Same H H1) (he : H1 p = some o) (r : MR K (off (p :: (O ++ B)) H1) p o m) (i : Nat) (hi : i < ρ.length) :
    ∃ O', At K B O' (σ.set i (some (.ref p))) H1 (ρ.set i (.own m)) ∧ Same H0 (off O' H1) := by
  have hp := A.all.new hn
  have hpO : p ∉ O := fun q => hp (List.mem_append_left _ q)
  have sb : Same (off (O ++ B) H) (off (p :: (O ++ B)) H1) := fun b u e => by
    have hb : b ∉ O ++ B := fun q => by rw [off_in q] at e; cases e
    rw [off_ne hb] at e
    rw [off_ne fun q => (List.mem_cons.mp q).elim (fun z => ne_of_none e hn z) hb]
    exact s1 _ _ e
  have S1 : Slots K H1 (off (p :: (O ++ B)) H1) σ ρ O := A.sl.mono (fun a _ o e => s1 a o e) sb
  obtain ⟨O', h1, h2, h3⟩ := S1.setOwn he r hpO i hi
  refine ⟨O', ⟨h3.mono (fun _ _ _ e => e) (off_sub fun b hb => ?_), A.al.mono s1, fun b hb hq => ?_⟩, fun b u e => ?_⟩
  · rcases List.mem_append.mp hb with q | q
    · rcases h1 b q with z | z
      · exact z ▸ List.mem_cons_self
      · exact List.mem_cons_of_mem _ (List.mem_append_left _ z)
    · exact List.mem_cons_of_mem _ (List.mem_append_right _ q)
  · rcases h1 b hb with z | z
    · subst z; exact hp (List.mem_append_right _ hq)
    · exact A.dj b z hq
  · have e' := s0 b u e
    have hb : b ∉ O := fun q => by rw [off_in q] at e'; cases e'
    rw [off_ne hb] at e'
    rw [off_ne fun q => (h1 b q).elim (fun z => ne_of_none e' hn z) hb]
    exact s1 _ _ e'
/-- x = a new object -/
theorem ds_own (i : Nat) {x : Str} (hN : X.N.Nodup) (he : DF X ρ e m) (k : D.nx (ρ.set i (.own m))) (hlt : i < ρ.length := by first | decide | simp [startS]) (hi : X.N[i]? = some x := by rfl) (hl : Loc X.env.scope x := by first | exact .inl rfl | exact .inr rfl)
    (hs : swapsWith e (some (.Name x pos')) pos.line X.env = pure false := by rfl) (hf : X.fn x = true ∨ X.env.scope.names.lookup x = some .local := by first | exact .inl rfl | exact .inr rfl) : DS X ρ (.Assign [.Name x pos'] e pos) D := fun B O σ H H0 De W T A s0 C =>
  (ps_set hN hi hl pe_se hs hf).ss (he B O σ H _ A fun p o H1 hn s1 e1 r1 => by
    obtain ⟨O', A', s'⟩ := A.own s0 hn s1 e1 r1 i hlt
    exact C.nx _ O' _ _ k A' s')
/-- xs.append(e) -/
theorem ds_append (i : Nat) {x : Str} {cpos : Pos} {ds : List DL.D} (he : DE X ρ e d) (hl : ds.length < sizeLine) (k : D.nx (ρ.set i (.own (.lst (ds ++ [d]))))) (hρ : ρ[i]? = some (.own (.lst ds)) := by rfl) (hN : X.N[i]? = some x := by rfl)
    (hv : Vis X.env.scope x := by first | exact .inl rfl | exact .inr (.inl rfl) | exact .inr (.inr rfl)) (hd : (x == ("__debug__" : Str)) = false := by decide) (hcd : (x == ("__classdict__" : Str)) = false := by decide)
    (q1 : attributeBase (.Name x p) "append" X.env (eval (.Name x p) X.env) = eval (.Name x p) X.env := by rfl)
    (q2 : ((((backTo cpos (starEach (e :: []) X.env)).all fun x => !x.1) && (backToKw cpos (keywordEach [] X.env)).all fun x => x.1.isSome) && decide (((e :: []).length + ([] : List Keyword).length + if ([] : List Keyword).isEmpty = true then 0 else 1) < 30)) = true := by rfl)
    (q3 : (apos.endLine == cpos.line) = true := by rfl) (q4 : starEach (e :: []) X.env = (false, eval e X.env) :: starEach [] X.env := by rfl) (q5 : (backTo cpos (starEach [] X.env)).any (·.1) = false := by rfl)
    (hs : swapsWith (.Call (.Attribute (.Name x p) "append" apos) [e] [] cpos) none pos.line X.env = pure false := by rfl) :
    DS X ρ (.Expr (.Call (.Attribute (.Name x p) "append" apos) [e] [] cpos) pos) D := fun B O σ H H0 De W T A s0 C => by
  refine (ps_expr (pe_bm (e := e) (es := []) PySem.F.plainAttrs_list PySem.F.slot_list_append PySem.F.type_list_append mt_append (pe_var hN hv hd hcd) pa_sa q1 q2 q3 q4 q5) hs).ss ?_
  obtain ⟨a, o, e1, e2, e3, e4, q⟩ := A.sl.own_at hρ
  cases e4 with
  | lst ha =>
    refine ⟨_, e1, .inl ⟨rfl, _, SqL.of e3⟩, ?_⟩
    refine da_cons he da_nil q4 B O σ H _ A fun ws H1 s1 r1 => ?_
    obtain ⟨v, rfl, r⟩ := r1.inv1
    refine ⟨_, _, _, rfl, rfl, s1 _ _ e3, by rw [ha.length]; exact hl, ?_⟩
    obtain ⟨a', o', f1, f2, f3, f4, q'⟩ := (A.grow s1).sl.own_at hρ
    rw [e1] at f1; cases f1
    have hoff : ∀ o, off (O ++ B) (upd H1 a o) = off (O ++ B) H1 := fun o => off_upd_in (List.mem_append_left _ e2)
    refine C.nx _ O _ _ k ⟨by rw [hoff]; exact q' _ _ (.lst ((ha.mono (off_same s1)).append (.one r))), fun b hb => ?_, A.dj⟩ ?_
    · rw [upd_ne (show b ≠ a from fun z => A.dj a e2 (z ▸ hb))]; exact A.al.mono s1 b hb
    rw [off_upd_in e2]
    exact keep_grow s0 s1
/-- xs[j] = e -/
theorem ds_setix (i : Nat) {x : Str} {n : Int} {j : Nat} {ds : List DL.D} (he : DE X ρ e d) (hb : DE X ρ b (.int n)) (hj : ixN ds.length n = some j) (k : D.nx (ρ.set i (.own (.lst (ds.set j d))))) (hρ : ρ[i]? = some (.own (.lst ds)) := by rfl) (hN : X.N[i]? = some x := by rfl)
    (hv : Vis X.env.scope x := by first | exact .inl rfl | exact .inr (.inl rfl) | exact .inr (.inr rfl)) (hd : (x == ("__debug__" : Str)) = false := by decide) (hcd : (x == ("__classdict__" : Str)) = false := by decide)
    (q1 : PG X (.Subscript (.Name x p) b pos') (gSub (tVar i) (SE X b) rSetL) := by exact (pg_sub (pe_var rfl (by first | exact .inl rfl | exact .inr (.inl rfl) | exact .inr (.inr rfl))) pe_se set_list))
    (h1 : swapsWithSole [.Subscript (.Name x p) b pos'] e pos.line X.env = pure false := by rfl) (h2 : swappedStores [.Subscript (.Name x p) b pos'] e X.env = pure none := by rfl)
    (h3 : (assignEach [.Subscript (.Name x p) b pos'] X.env).map (·.2) = [assign (.Subscript (.Name x p) b pos') X.env] := by rfl) :
    DS X ρ (.Assign [.Subscript (.Name x p) b pos'] e pos) D := fun B O σ H H0 De W T A s0 C => by
  refine (ps_asg pe_se q1 h1 h2 h3).ss ?_
  refine he B O σ H _ A fun v H1 s1 r1 => ?_
  obtain ⟨a, o, e1, e2, e3, e4, q⟩ := (A.grow s1).sl.own_at hρ
  cases e4 with
  | lst ha =>
    refine ⟨_, e1, hb B O σ H1 _ (A.grow s1) fun w H2 s2 r2 => ?_⟩
    cases r2
    refine ⟨_, _, _, j, rfl, rfl, s2 _ _ e3, by rw [ha.length]; exact hj, ?_⟩
    obtain ⟨a', o', f1, f2, f3, f4, q'⟩ := (A.grow (s1.trans s2)).sl.own_at hρ
    rw [e1] at f1; cases f1
    have hoff : ∀ o, off (O ++ B) (upd H2 a o) = off (O ++ B) H2 := fun o => off_upd_in (List.mem_append_left _ e2)
    refine C.nx _ O _ _ k ⟨by rw [hoff]; exact q' _ _ (.lst ((ha.mono (off_same s2)).set (r1.mono (off_same s2)) j)), fun b hb => ?_, A.dj⟩ ?_
    · rw [upd_ne (show b ≠ a from fun z => A.dj a e2 (z ▸ hb))]; exact A.al.mono (s1.trans s2) b hb
    · rw [off_upd_in e2]
      exact keep_grow s0 (s1.trans s2)
/-- an expression whose value is dropped -/
theorem ds_expr (he : DE X ρ e d) (k : D.nx ρ) (hs : swapsWith e none pos.line X.env = pure false := by rfl) : DS X ρ (.Expr e pos) D := fun B O σ H H0 De W T A s0 C =>
  (ps_expr pe_se hs).ss (he B O σ H _ A fun v H1 s1 r1 => C.nx _ O _ _ k (A.grow s1) (keep_grow s0 s1))
theorem ds_ret (he : DE X ρ e d) (k : D.rt d) : DS X ρ (.Return (some e) pos) D := fun B O σ H H0 De W T A s0 C =>
  (ps_ret pe_se).ss (he B O σ H _ A fun v H1 s1 r1 => C.rt _ _ _ k (r1.mono (off_sub fun b hb => List.mem_append_right _ hb)) (s0.trans (off_le.trans s1)))
theorem ds_retNew (he : DF X ρ e m) (k : D.rm m) : DS X ρ (.Return (some e) pos) D := fun B O σ H H0 De W T A s0 C =>
  (ps_ret pe_se).ss (he B O σ H _ A fun p o H1 hn s1 e1 r1 => C.rm _ _ _ _ k (s0.free (by
    cases q : off O H p with
    | none => rfl
    | some u => exact absurd (off_le p u q) (by rw [hn]; intro z; cases z))) e1 (r1.mono (off_sub fun b hb => by
      rcases List.mem_cons.mp hb with z | z
      · exact z ▸ List.mem_cons_self
      · exact List.mem_cons_of_mem _ (List.mem_append_right _ z))) (s0.trans (off_le.trans s1)))
theorem ds_retOwn (i : Nat) {x : Str} (k : D.rm m) (hρ : ρ[i]? = some (.own m) := by rfl) (hN : X.N[i]? = some x := by rfl)
    (hv : Vis X.env.scope x := by first | exact .inl rfl | exact .inr (.inl rfl) | exact .inr (.inr rfl)) (hd : (x == ("__debug__" : Str)) = false := by decide) (hcd : (x == ("__classdict__" : Str)) = false := by decide) : DS X ρ (.Return (some (.Name x p)) pos) D := fun B O σ H H0 De W T A s0 C => by
  obtain ⟨a, o, e1, e2, e3, e4, q⟩ := A.sl.own_at hρ
  refine (ps_ret (pe_var hN hv hd hcd)).ss ⟨_, e1, C.rm _ _ _ _ k (s0.free (off_in e2)) e3 (e4.mono (off_sub fun b hb => ?_)) (s0.trans off_le)⟩
  rcases List.mem_cons.mp hb with z | z
  · exact z ▸ List.mem_append_left _ e2
  · exact List.mem_append_right _ z
theorem ds_retN (k : D.rt .non) : DS X ρ (.Return none pos) D := fun B O σ H H0 De W T A s0 C => ps_retN.ss (C.rt _ _ _ k .non (s0.trans off_le))
theorem ds_pass (k : D.nx ρ) : DS X ρ (.Pass pos) D := fun B O σ H H0 De W T A s0 C => ps_pass.ss (C.nx _ _ _ _ k A s0)
theorem ds_break (k : D.bk ρ) : DS X ρ (.Break pos) D := fun B O σ H H0 De W T A s0 C => ps_break.ss (C.bk _ _ _ _ k A s0)
theorem ds_continue (k : D.ct ρ) : DS X ρ (.Continue pos) D := fun B O σ H H0 De W T A s0 C => ps_continue.ss (C.ct _ _ _ _ k A s0)
theorem ds_if {z : Bool} {s1 s2 : List Stmt} (hc : DT X ρ c z) (h1 : z = true → DSs X ρ s1 D) (h2 : z = false → DSs X ρ s2 D) : DS X ρ (.If c s1 s2 pos) D := fun B O σ H H0 De W T A s0 C =>
  (ps_if pt_st pss_ss pss_ss).ss (hc B O σ H _ A fun H1 q1 => by
    cases z with
    | true => rw [if_pos rfl]; exact h1 rfl B O σ H1 H0 De W T (A.grow q1) (keep_grow s0 q1) C
    | false => rw [if_neg Bool.false_ne_true]; exact h2 rfl B O σ H1 H0 De W T (A.grow q1) (keep_grow s0 q1) C)
/-- for tg in it: body -/
theorem ds_for {tg it : Expr} (Iv : Nat → List Sl → Prop) (hxe : PassesOwn (model X.prog X.w) X.A X.env X.xe) (hc : X.calm = true) (hi : DI X ρ tg it items) (h0 : Up (Iv 0) ρ)
    (turn : ∀ (k : Nat) x ρ', items[k]? = some x → Iv k ρ' → ∃ is ρ'', DG X ρ' tg x is ρ'' ∧ DSs X ρ'' body { D with nx := Up (Iv (k + 1)), bk := D.nx, ct := Up (Iv (k + 1)) })
    (done : ∀ ρ', Iv items.length ρ' → D.nx ρ') (hfs : ∀ x, foldedSetIterable it X.env x = pure x := by intro _; rfl) : DS X ρ (.For tg it body [] pos) D := fun B O σ H H0 De W T A s0 C => by
  refine (ps_for hxe hc pi_si pg_sg pss_ss hfs).ss ?_
  refine hi B O σ H _ A fun J H1 s1 j => ?_
  have A1 := A.grow s1
  have C1 : Cov X.K B (off O H1) De W D := C.weak (keep_grow s0 s1)
  have inner : ∀ {O' : List Addr} {H' : Hp}, Same (off O H1) (off O' H') → Same (off (O ++ B) H1) (off (O' ++ B) H') := fun {O' H'} q b u e => by
    have hb : b ∉ O ++ B := fun z => by rw [off_in z] at e; cases e
    rw [off_ne hb] at e
    have e' := q b u (by rw [off_ne fun z => hb (List.mem_append_left _ z)]; exact e)
    have hb' : b ∉ O' := fun z => by rw [off_in z] at e'; cases e'
    rw [off_ne hb'] at e'
    rw [off_ne fun z => (List.mem_append.mp z).elim hb' fun z => hb (List.mem_append_right _ z)]
    exact e'
  refine ⟨fun i m σ H => m = items.length - i ∧ i ≤ items.length ∧ ∃ ρ' O', Iv i ρ' ∧ At X.K B O' σ H ρ' ∧ Same (off O H1) (off O' H), (let ⟨ρ', l, h⟩ := h0; ⟨_, rfl, Nat.zero_le _, ρ', O, h, A1.le l, Same.refl _⟩), ?_⟩
  rintro i m σ' H' ⟨rfl, hle, ρ', O', hI, A', q⟩
  by_cases hi' : i < items.length
  · obtain ⟨g1, g2⟩ := j.go B O' H' (inner q) A'.all i _ (List.getElem?_eq_getElem hi')
    refine .inr ⟨g1, fun σ'' H'' => ∃ ρ'' O'', Iv (i + 1) ρ'' ∧ At X.K B O'' σ'' H'' ρ'' ∧ Same (off O H1) (off O'' H''), fun σ'' H'' ⟨ρ'', O'', a1, a2, a3⟩ => ⟨_, by omega, rfl, hi', ρ'', O'', a1, a2, a3⟩, fun x H'' hy => ?_⟩
    obtain ⟨s2, r2⟩ := g2 x H'' hy
    obtain ⟨is, ρ2, hg, hb⟩ := turn i _ ρ' (List.getElem?_eq_getElem hi') hI
    refine hg B O' σ' H'' x _ (A'.grow s2) r2 fun σ2 A2 _ => ?_
    refine hb B O' σ2 H'' (off O H1) _ W T A2 (q.trans (off_same s2)) ⟨fun ρ O σ H ⟨ρ', l, h⟩ A q => ⟨ρ', O, h, A.le l, q⟩, C1.rt, C1.rm, fun ρ O σ H h A q => C1.nx ρ O σ H h A q, fun ρ O σ H ⟨ρ', l, h⟩ A q => ⟨ρ', O, h, A.le l, q⟩, C1.ex⟩
  · have e : i = items.length := by omega
    subst e
    exact .inl ⟨j.stop B O' H' (inner q) _ (Nat.le_refl _), C1.nx _ _ _ _ (done _ hI) A' q⟩
/-- while c: body -/
theorem ds_while (Iv : List Sl → Prop) (μ : List Sl → Nat) (hxe : PassesOwn (model X.prog X.w) X.A X.env X.xe) (h0 : Up Iv ρ)
    (turn : ∀ ρ', Iv ρ' → ∃ z, DT X ρ' c z ∧ (z = true → DSs X ρ' body { D with nx := Up fun ρ'' => Iv ρ'' ∧ μ ρ'' < μ ρ', bk := D.nx, ct := Up fun ρ'' => Iv ρ'' ∧ μ ρ'' < μ ρ' }) ∧ (z = false → D.nx ρ')) : DS X ρ (.While c body [] pos) D := fun B O σ H H0 De W T A s0 C => by
  refine (ps_while hxe pt_st pss_ss).ss ?_
  refine ⟨fun m σ H => ∃ ρ' O', Iv ρ' ∧ μ ρ' = m ∧ At X.K B O' σ H ρ' ∧ Same H0 (off O' H), (let ⟨ρ', l, h⟩ := h0; ⟨_, ρ', O, h, rfl, A.le l, s0⟩), ?_⟩
  rintro m σ' H' ⟨ρ', O', hI, rfl, A', q⟩
  obtain ⟨z, hz, h1, h2⟩ := turn ρ' hI
  refine hz B O' σ' H' _ A' fun H2 s2 => ?_
  cases z with
  | false => rw [if_neg Bool.false_ne_true]; exact C.nx _ _ _ _ (h2 rfl) (A'.grow s2) (keep_grow q s2)
  | true =>
    rw [if_pos rfl]
    refine ⟨fun σ'' H'' => ∃ ρ'' O'', Iv ρ'' ∧ μ ρ'' < μ ρ' ∧ At X.K B O'' σ'' H'' ρ'' ∧ Same H0 (off O'' H''), fun σ'' H'' ⟨ρ'', O'', a1, a2, a3, a4⟩ => ⟨_, a2, ρ'', O'', a1, rfl, a3, a4⟩, ?_⟩
    exact h1 rfl B O' σ' H2 H0 _ W T (A'.grow s2) (keep_grow q s2) ⟨fun ρ O σ H ⟨ρ', l, h⟩ A q => ⟨ρ', O, h.1, h.2, A.le l, q⟩, C.rt, C.rm, fun ρ O σ H h A q => C.nx ρ O σ H h A q, fun ρ O σ H ⟨ρ', l, h⟩ A q => ⟨ρ', O, h.1, h.2, A.le l, q⟩, C.ex⟩

/-! ### what is owned is read as data where a scalar comes of it -/
def Sl.peek : Sl → Sl
  | .own m => .dat m.d
  | s => s
def D.scal : DL.D → Bool
  | .non => true
  | .bl _ => true
  | .int _ => true
  | .str _ => true
  | _ => false
theorem DR.scal {K : PySem.W.Frag} {G G' : Hp} {v : V} {d : DL.D} (h : DR K G v d) (hs : d.scal = true) : DR K G' v d := by
  cases h with
  | non => exact .non
  | bl b => exact .bl b
  | int i => exact .int i
  | str x => exact .str x
  | _ => cases hs
theorem Slots.peek {G : Hp} (h : Slots K H G σ ρ O) (s : Same G H) : Slots K H H σ (ρ.map Sl.peek) [] := by
  induction h with
  | nil => exact .nil
  | emp _ ih => exact .emp ih
  | dat r _ ih => exact .dat (r.mono s) ih
  | own e r n _ ih => exact .dat ((r.mono s).dr e) ih
theorem At.peek (A : At K B O σ H ρ) : At K [] [] σ H (ρ.map Sl.peek) := ⟨by rw [show off (([] : List Addr) ++ []) H = H from off_nil]; exact A.sl.peek off_le, (fun _ h => nomatch h), (fun _ h => nomatch h)⟩
theorem de_peek (h : DE X (ρ.map Sl.peek) e d) (hs : d.scal = true := by rfl) : DE X ρ e d := fun B O σ H Q A k => h [] [] σ H Q A.peek fun v H' s r => k v H' s (r.scal hs)
theorem dt_peek {z : Bool} (h : DT X (ρ.map Sl.peek) e z) : DT X ρ e z := fun B O σ H Q A k => h [] [] σ H Q A.peek k
/-- an item of an owned list -/
theorem de_ixO (i : Nat) {x : Str} {n : Int} {ds : List DL.D} (h' : DE X ρ b (.int n)) (q : atI ds n = some d) (hρ : ρ[i]? = some (.own (.lst ds)) := by rfl) (hN : X.N[i]? = some x := by rfl)
    (hv : Vis X.env.scope x := by first | exact .inl rfl | exact .inr (.inl rfl) | exact .inr (.inr rfl)) (hd : (x == ("__debug__" : Str)) = false := by decide) (hcd : (x == ("__classdict__" : Str)) = false := by decide)
    (hp : PlainIx b := by exact (fun _ _ => rfl)) : DE X ρ (.Subscript (.Name x p) b pos) d := fun B O σ H Q A k => by
  obtain ⟨a, o, e1, e2, e3, e4, _⟩ := A.sl.own_at hρ
  cases e4 with
  | lst ha =>
    refine (pe_ix ix_list (pe_var hN hv hd hcd) pe_se hp).se ⟨_, e1, h' B O σ H _ A fun y H2 s2 r2 => ?_⟩
    cases r2
    obtain ⟨v, e, r⟩ := atI_drs ha q
    exact ⟨_, _, _, _, rfl, rfl, s2.seq (SqL.of e3), e, k _ _ s2 (r.mono (off_same s2))⟩
end

/-! ### comprehensions -/
def wipeS (ρ : List Sl) : List Nat → List Sl
  | [] => ρ
  | v :: vs => (wipeS ρ vs).set v .emp
def DTs (X : Cx) (ρ : List Sl) (ifs : List Expr) (z : Bool) : Prop := ∀ B O σ H (Q : Bool → Hp → Prop), At X.K B O σ H ρ → (∀ H', Same H H' → Q z H') → STs X ifs σ H Q
section
variable {X : Cx} {ρ : List Sl} {e elt tg iter : Expr} {ifs : List Expr} {items : List D} {pos : Pos} {scope : Scope} {own : List (Str × Nat)} {K : PySem.W.Frag} {B O : List Addr} {σ : L2.St} {H H1 : Hp}
theorem dts_nil : DTs X ρ [] true := fun B O σ H Q A k => pts_nil.st (k _ (Same.refl _))
theorem dts_one {z : Bool} (h : DT X ρ e z) : DTs X ρ [e] z := fun B O σ H Q A k => (pts_one pt_st).st (h B O σ H Q A k)
theorem At.wipe (A : At K B O σ H ρ) : ∀ vs : List Nat, (∀ i ∈ vs, ∀ m, ρ[i]? ≠ some (.own m)) → At K B O (wipe σ vs) H (wipeS ρ vs)
  | [], _ => A
  | v :: vs, h => by
    have ih := A.wipe vs fun i hi => h i (List.mem_cons_of_mem _ hi)
    refine ⟨ih.sl.clr v fun m q => ?_, ih.al, ih.dj⟩
    have aux : ∀ ws : List Nat, (wipeS ρ ws)[v]? = some (.own m) → ρ[v]? = some (.own m) := by
      intro ws
      induction ws with
      | nil => exact fun h => h
      | cons w ws ih =>
        intro hq
        unfold wipeS at hq
        by_cases hw : w = v
        · subst hw
          by_cases hl : w < (wipeS ρ ws).length
          · rw [List.getElem?_set_self hl] at hq; cases hq
          · rw [List.getElem?_eq_none (by rw [List.length_set]; omega)] at hq; cases hq
        · rw [List.getElem?_set_ne hw] at hq
          exact ih hq
    exact h v List.mem_cons_self m (aux vs q)
theorem filt_take {α : Type} {t : α → Bool} {xs : List α} {i : Nat} {x : α} (h : xs[i]? = some x) : (xs.take (i + 1)).filter t = (xs.take i).filter t ++ (if t x = true then [x] else []) := by
  have hi : i < xs.length := (List.getElem?_eq_some_iff.mp h).1
  have e : xs.take (i + 1) = xs.take i ++ [x] := by
    rw [List.take_succ_eq_append_getElem hi]
    rw [List.getElem?_eq_getElem hi] at h
    cases h; rfl
  rw [e, List.filter_append]
  by_cases q : t x = true
  · simp [q]
  · simp [q]
/-- the heart of a comprehension: its reading -/
theorem lc_read {α : Type} {items : List α} {f : α → D} (t : α → Bool) (g : α → D) (hi : DI X ρ tg iter (items.map f)) (hsz : items.length ≤ sizeLine)
    (hel : ∀ x ∈ items, ∃ is ρ', (∀ i ∈ is, i ∈ own.map (·.2)) ∧ ∀ (s : Shared) (H : Hp) (C : Addr) (cl : List (Str × Addr)) (fp : List Addr), DG (X.blk s H scope (compEnvC scope cl C X.env) fp) (wipeS ρ (own.map (·.2))) tg (f x) is ρ' ∧
      DTs (X.blk s H scope (compEnvC scope cl C X.env) fp) ρ' ifs (t x) ∧ (t x = true → DE (X.blk s H scope (compEnvC scope cl C X.env) fp) ρ' elt (g x)))
    (hw : ∀ i ∈ own.map (·.2), ∀ m, ρ[i]? ≠ some (.own m)) {Q : VK} (A : At X.K B O σ H ρ) (k : New X.K (O ++ B) H (.lst ((items.filter t).map g)) Q) :
    tLc (SI X tg iter) (fun v σ H Q => ∀ (s : Shared) (H' : Hp) (C : Addr) (cl : List (Str × Addr)) (fp : List Addr), SG (X.blk s H' scope (compEnvC scope cl C X.env) fp) tg v σ H Q)
      (fun σ H Q => ∀ (s : Shared) (H' : Hp) (C : Addr) (cl : List (Str × Addr)) (fp : List Addr), STs (X.blk s H' scope (compEnvC scope cl C X.env) fp) ifs σ H Q)
      (fun σ H Q => ∀ (s : Shared) (H' : Hp) (C : Addr) (cl : List (Str × Addr)) (fp : List Addr), SE (X.blk s H' scope (compEnvC scope cl C X.env) fp) elt σ H Q) (own.map (·.2)) σ H Q := by
  refine hi B O σ H _ A fun J H1 s1 j => ?_
  intro Dl hD
  have A1 := A.grow s1
  have inner : ∀ {H' : Hp}, Same H1 (off [Dl] H') → Same (off (O ++ B) H1) (off (O ++ (Dl :: B)) H') := fun {H'} q b u e => by
    have hb : b ∉ O ++ B := fun z => by rw [off_in z] at e; cases e
    rw [off_ne hb] at e
    have hbD : b ≠ Dl := ne_of_none e hD
    rw [off_ne fun z => (List.mem_append.mp z).elim (fun z => hb (List.mem_append_left _ z)) fun z => (List.mem_cons.mp z).elim hbD fun z => hb (List.mem_append_right _ z)]
    exact off_le b u (q b u e)
  refine ⟨fun i m H' => m = items.length - i ∧ i ≤ items.length ∧ Same H1 (off [Dl] H') ∧ ∃ acc, H' Dl = some (.lst acc) ∧ DRs X.K (off (O ++ (Dl :: B)) H') acc (((items.take i).filter t).map g), ⟨_, rfl, Nat.zero_le _, fun b u e => ?_, [], upd_same, by simp; exact .nil⟩, ?_⟩
  · have hb : b ≠ Dl := ne_of_none e hD
    rw [off_ne (by simpa using hb), upd_ne hb]; exact e
  rintro i m H' ⟨rfl, hle, q, acc, hacc, racc⟩
  have AD : At X.K (Dl :: B) O σ H' ρ := A1.more hD q hacc
  by_cases hlt : i < items.length
  · obtain ⟨g1, g2⟩ := j.go (Dl :: B) O H' (inner q) AD.all i (f items[i]) (by rw [List.getElem?_map, List.getElem?_eq_getElem hlt]; rfl)
    refine .inr ⟨g1, fun H'' => Same H1 (off [Dl] H'') ∧ ∃ acc, H'' Dl = some (.lst acc) ∧ DRs X.K (off (O ++ (Dl :: B)) H'') acc (((items.take (i + 1)).filter t).map g), fun H'' ⟨a1, a2⟩ => ⟨_, by omega, rfl, hlt, a1, a2⟩, fun x H2 hy => ?_⟩
    obtain ⟨s2, r2⟩ := g2 x H2 hy
    have hx : items[i] ∈ items := List.getElem_mem hlt
    obtain ⟨is, ρ', his, hall⟩ := hel _ hx
    intro s H' C cl fp
    refine (hall s H' C cl fp).1 (Dl :: B) O _ H2 x _ ((AD.grow s2).wipe _ hw) r2 fun σ2 A2 w2 => ⟨?_, ?_⟩
    · have w3 := w2 (own.map (·.2)) his
      have idem : ∀ (vs : List Nat), wipe (wipe σ vs) vs = wipe σ vs := by
        intro vs
        have aux : ∀ (ws : List Nat) (τ : L2.St), (∀ i ∈ ws, ∀ v, τ[i]? ≠ some (some v)) → wipe τ ws = τ := by
          intro ws
          induction ws with
          | nil => intro τ _; rfl
          | cons w ws ih =>
            intro τ h
            unfold wipe
            rw [ih τ fun i hi => h i (List.mem_cons_of_mem _ hi)]
            apply List.ext_getElem?
            intro n
            by_cases hn : w = n
            · subst hn
              by_cases hl : w < τ.length
              · rw [List.getElem?_set_self hl]
                have := h w List.mem_cons_self
                rw [List.getElem?_eq_getElem hl] at this ⊢
                cases e : τ[w] with
                | none => rfl
                | some v => exact absurd (by rw [e]) (this v)
              · rw [List.getElem?_eq_none (by rw [List.length_set]; omega), List.getElem?_eq_none (by omega)]
            · rw [List.getElem?_set_ne hn]
        exact aux vs _ fun i hi v e => (wipe_some e).2 hi
      rw [w3, idem]
    · intro s H' C cl fp
      refine (hall s H' C cl fp).2.1 (Dl :: B) O σ2 H2 _ A2 fun H3 s3 => ?_
      by_cases ht : t items[i] = true
      · rw [if_pos ht]
        intro s H' C cl fp
        refine (hall s H' C cl fp).2.2 ht (Dl :: B) O σ2 H3 _ (A2.grow s3) fun y H4 s4 r4 => ?_
        have s24 := s2.trans (s3.trans s4)
        refine ⟨acc, s24 _ _ hacc, ?_, fun b u e => ?_, _, upd_same, ?_⟩
        · have := racc.length
          have h1 : (((items.take i).filter t).map g).length ≤ i := by
            rw [List.length_map]
            exact Nat.le_trans (List.length_filter_le _ _) (by rw [List.length_take]; omega)
          omega
        · have e' := q b u e
          have hb : b ∉ [Dl] := fun z => by rw [off_in z] at e'; cases e'
          rw [off_ne hb] at e' ⊢
          rw [upd_ne (by simpa using hb)]
          exact s24 _ _ e'
        · have hD' : Dl ∈ O ++ (Dl :: B) := List.mem_append_right _ List.mem_cons_self
          rw [off_upd_in hD', filt_take (List.getElem?_eq_getElem hlt), if_pos ht, List.map_append]
          exact (racc.mono (off_same s24)).append (.one r4)
      · rw [if_neg ht]
        have s23 := s2.trans s3
        refine ⟨fun b u e => ?_, acc, s23 _ _ hacc, ?_⟩
        · have e' := q b u e
          have hb : b ∉ [Dl] := fun z => by rw [off_in z] at e'; cases e'
          rw [off_ne hb] at e' ⊢
          exact s23 _ _ e'
        · rw [filt_take (List.getElem?_eq_getElem hlt), if_neg ht, List.append_nil]
          exact racc.mono (off_same s23)
  · have e : i = items.length := by omega
    subst e
    refine .inl ⟨j.stop (Dl :: B) O H' (inner q) _ (by rw [List.length_map]; exact Nat.le_refl _), ?_⟩
    rw [List.take_length] at racc
    refine k Dl _ H' (s1.free hD) (s1.trans (q.trans off_le)) hacc (.lst (racc.mono (off_sub fun b hb => ?_)))
    rcases List.mem_cons.mp hb with z | z
    · exact z ▸ List.mem_append_right _ List.mem_cons_self
    · exact (List.mem_append.mp z).elim (List.mem_append_left _) fun z => List.mem_append_right _ (List.mem_cons_of_mem _ z)
/-- [elt for tg in iter if ifs] -/
theorem df_lc (own : List (Str × Nat)) {α : Type} {items : List α} {f : α → D} (t : α → Bool) (g : α → D) (hc : X.calm = true) (hN : X.N.Nodup) (hi : DI X ρ tg iter (items.map f)) (ok : BlkOk X.N X.env.scope scope own) (hsz : items.length ≤ sizeLine)
    (hel : ∀ x ∈ items, ∃ is ρ', (∀ i ∈ is, i ∈ own.map (·.2)) ∧ ∀ (s : Shared) (H : Hp) (C : Addr) (cl : List (Str × Addr)) (fp : List Addr), DG (X.blk s H scope (compEnvC scope cl C X.env) fp) (wipeS ρ (own.map (·.2))) tg (f x) is ρ' ∧
      DTs (X.blk s H scope (compEnvC scope cl C X.env) fp) ρ' ifs (t x) ∧ (t x = true → DE (X.blk s H scope (compEnvC scope cl C X.env) fp) ρ' elt (g x)))
    (hw : ∀ i ∈ own.map (·.2), ∀ m, ρ[i]? ≠ some (.own m) := by intro i hi m h; simp at hi; subst hi; cases h) (hfs : ∀ x, foldedSetIterable iter X.env x = pure x := by intro _; rfl) :
    DF X ρ (.ListComp elt [⟨tg, iter, ifs, 0⟩] scope pos) (.lst ((items.filter t).map g)) := fun B O σ H Q A k =>
  (pe_lc hc hN pi_si ok (fun s H C cl fp => ⟨fun pins s' σ H v u Q I r h => (h s _ C cl fp).run pins s' u I r⟩) (fun s H C cl fp => ⟨fun pins s' σ H Q I h => (h s _ C cl fp).run pins s' I⟩) (fun s H C cl fp => ⟨fun pins s' σ H Q I h => (h s _ C cl fp).run pins s' I⟩) hfs).se (lc_read t g hi hsz hel hw A k)
/-- y = [elt for ..] -/
theorem ds_setLc (i : Nat) (own : List (Str × Nat)) {α : Type} {items : List α} {f : α → D} (t : α → Bool) (g : α → D) {y : Str} {py spos : Pos} {De : DEnds} (hc : X.calm = true) (hN : X.N.Nodup) (hi : DI X ρ tg iter (items.map f)) (ok : BlkOk X.N X.env.scope scope own) (hsz : items.length ≤ sizeLine)
    (hel : ∀ x ∈ items, ∃ is ρ', (∀ i ∈ is, i ∈ own.map (·.2)) ∧ ∀ (s : Shared) (H : Hp) (C : Addr) (cl : List (Str × Addr)) (fp : List Addr), DG (X.blk s H scope (compEnvC scope cl C X.env) fp) (wipeS ρ (own.map (·.2))) tg (f x) is ρ' ∧
      DTs (X.blk s H scope (compEnvC scope cl C X.env) fp) ρ' ifs (t x) ∧ (t x = true → DE (X.blk s H scope (compEnvC scope cl C X.env) fp) ρ' elt (g x)))
    (k : De.nx (ρ.set i (.own (.lst ((items.filter t).map g)))))
    (hlt : i < ρ.length := by first | decide | simp [startS]) (hy : X.N[i]? = some y := by rfl) (hyl : X.env.scope.names.lookup y = some .local := by rfl) (hsw : swapsWith (.ListComp elt [⟨tg, iter, ifs, 0⟩] scope pos) (some (.Name y py)) spos.line X.env = pure true := by exact sw_true rfl rfl rfl (by decide +kernel))
    (hw : ∀ i ∈ own.map (·.2), ∀ m, ρ[i]? ≠ some (.own m) := by intro i hi m h; simp at hi; subst hi; cases h) (hfs : ∀ x, foldedSetIterable iter X.env x = pure x := by intro _; rfl) :
    DS X ρ (.Assign [.Name y py] (.ListComp elt [⟨tg, iter, ifs, 0⟩] scope pos) spos) De := fun B O σ H H0 E W T A s0 C =>
  (ps_setLc hc hN hy hyl hsw pi_si ok (fun s H C cl fp => ⟨fun pins s' σ H v u Q I r h => (h s _ C cl fp).run pins s' u I r⟩) (fun s H C cl fp => ⟨fun pins s' σ H Q I h => (h s _ C cl fp).run pins s' I⟩) (fun s H C cl fp => ⟨fun pins s' σ H Q I h => (h s _ C cl fp).run pins s' I⟩) hfs).ss
    (lc_read t g hi hsz hel hw A fun p o H1 hn s1 e1 r1 => by
      obtain ⟨O', A', s'⟩ := A.own s0 hn s1 e1 r1 i hlt
      exact C.nx _ O' _ _ k A' s')
end
end DL
set_option Elab.async false
set_option linter.all false
set_option maxRecDepth 100000
set_option maxHeartbeats 1000000
/-! DL5: defs and calls; exceptions: raise, try, isinstance. -/
namespace DL
open PySem PySem.Spec PyProof.Rows L2

inductive Out where
  | val (d : D) | new (m : MO) | exc (C : Addr) (fs : Option (List (Str × D)))
def Out.k (K : PySem.W.Frag) (B : List Addr) (H : Hp) (Q : VK) (E : XK) : Out → Prop
  | .val d => ∀ v H', Same H H' → DR K (off B H') v d → Q v H'
  | .new m => ∀ p o H', H p = none → Same H H' → H' p = some o → MR K (off (p :: B) H') p o m → Q (.ref p) H'
  | .exc C fs => ∀ H' od, Same H H' → ExcD K (off B H') od fs → E (.ref C) od H'
/-- a def that changes nothing: R tells what it gives of the data ds -/
def spD (K : PySem.W.Frag) (R : List D → Out → Prop) : Sp := fun vs H Q E => ∃ B ds out, Al B H ∧ DRs K (off B H) vs ds ∧ R ds out ∧ Out.k K B H Q E out
def Out.ends : Out → DEnds
  | .val d => { nx := fun _ => d = .non, rt := fun e => e = d }
  | .new m => { nx := fun _ => False, rm := fun e => e = m }
  | .exc C fs => { nx := fun _ => False, ex := fun C' fs' _ => C' = C ∧ fs' = fs }
def startS (N : List Str) (ds : List D) : List Sl := ds.map .dat ++ List.replicate (N.length - ds.length) .emp
theorem slots_emp {K : PySem.W.Frag} {H G : Hp} : ∀ n, Slots K H G (List.replicate n none) (List.replicate n .emp) []
  | 0 => .nil
  | n + 1 => .emp (slots_emp n)
theorem slots_start {K : PySem.W.Frag} {H G : Hp} {N : List Str} {vs : List V} {ds : List D} (h : DRs K G vs ds) : Slots K H G (L2.start N vs) (startS N ds) [] := by
  have hl := h.length
  unfold L2.start startS
  rw [hl]
  have aux : ∀ (vs : List V) (ds : List D), DRs K G vs ds → ∀ n, Slots K H G (vs.map some ++ List.replicate n none) (ds.map .dat ++ List.replicate n .emp) [] := by
    intro vs ds h
    induction ds generalizing vs with
    | nil => intro n; cases h; exact slots_emp n
    | cons d ds ih => intro n; cases h with | cons h1 r => exact .dat h1 (ih _ r n)
  exact aux vs ds h _
theorem out_cov {K : PySem.W.Frag} {B : List Addr} {H : Hp} {Q : VK} {E : XK} {out : Out} {W : WX} (hk : Out.k K B H Q E out) (hW : ∀ C fs, out = .exc C fs → ∀ cls d σ H, E cls d H → W cls d σ H) : Cov K B H { nx := fun _ H' => Q .non H', rt := Q } W out.ends := by
  cases out with
  | val d =>
    refine ⟨fun ρ O σ H' h A q => ?_, fun d' v H' h r q => ?_, fun m p o H' h => h.elim, fun ρ O σ H' h => h.elim, fun ρ O σ H' h => h.elim, fun C fs ρ O σ H' od h => h.elim⟩
    · have h : d = .non := h
      subst h; exact hk _ _ (q.trans off_le) .non
    · have h : d' = d := h
      subst h; exact hk _ _ q r
  | new m =>
    refine ⟨fun ρ O σ H' h => h.elim, fun d' v H' h => h.elim, fun m' p o H' h n e r q => ?_, fun ρ O σ H' h => h.elim, fun ρ O σ H' h => h.elim, fun C fs ρ O σ H' od h => h.elim⟩
    have h : m' = m := h
    subst h; exact hk _ _ _ n q e r
  | exc C fs =>
    refine ⟨fun ρ O σ H' h => h.elim, fun d' v H' h => h.elim, fun m' p o H' h => h.elim, fun ρ O σ H' h => h.elim, fun ρ O σ H' h => h.elim, fun C' fs' ρ O σ H' od h A q r => ?_⟩
    obtain ⟨rfl, rfl⟩ : C' = C ∧ fs' = fs := h
    exact hW _ _ rfl _ _ _ _ (hk H' od (q.trans off_le) (r.mono (off_sub fun b hb => List.mem_append_right _ hb)))
section
variable {P : Program} {w : World} {K : PySem.W.Frag} {mg : Str → Option Value} {base : Heap}
/-- a def that raises nothing -/
theorem dfn {x qual : Str} {st : Stmt} {f : Addr} {fd : FuncData} {N ps : List Str} {k : Nat} {R : List D → Out → Prop} (F : Fun K x qual st f fd) (S : FnScope N ps (defScope st)) (len : ∀ ds out, R ds out → ds.length = ps.length ∧ ∀ C fs, out ≠ .exc C fs)
    (body : ∀ ds out, R ds out → ∀ (cdv : Value) (A : Around) (outer : List Env) (s : Shared) (H : Hp) (E : XK), Room k (A.deeper (envOfC qual (defScope st) s.heap.objs.size f cdv)) →
      DSs (cxOf CX0 P w K mg base N qual (defScope st) f cdv A outer s H E).nox (startS N ds) (defBody st) out.ends) : FnOk P w K mg base CX0 (k + 1) f fd ps (spD K R) := by
  refine F.ok S (fun vs H Q E h => ?_) (fun cdv A outer s H vs Q E hr h => ?_)
  · obtain ⟨B, ds, out, _, r, hR, _⟩ := h
    rw [r.length]; exact (len _ _ hR).1
  · obtain ⟨B, ds, out, al, r, hR, hk⟩ := h
    refine ⟨_, pss_ss, ?_⟩
    exact body ds out hR cdv A outer s H E hr B [] (L2.start N vs) H H _ (fun _ _ _ _ => False) takes_noneN ⟨slots_start (by rw [List.nil_append]; exact r), al, fun b hb => by cases hb⟩ (by rw [off_nil]; exact Same.refl _)
      (out_cov hk fun C fs e => absurd e ((len _ _ hR).2 C fs))
theorem Fun_okN {CX : CXT} {x qual : Str} {st : Stmt} {f : Addr} {fd : FuncData} {N ps : List Str} {k : Nat} {sp : Sp} (F : Fun K x qual st f fd) (S : FnScope N ps (defScope st)) (len : ∀ vs H Q E, sp vs H Q E → vs.length = ps.length)
    (hbody : ∀ (cdv : Value) (A : Around) (outer : List Env) (s : Shared) (H : Hp) (vs : List V) (Q : VK) (E : XK), Room k (A.deeper (envOfC qual (defScope st) s.heap.objs.size f cdv)) → sp vs H Q E →
      ∃ t, PSs (cxOf CX P w K mg base N qual (defScope st) f cdv A outer s H E) (defBody st) t ∧ t { nx := fun _ H' => Q .non H', rt := Q } (L2.start N vs) H) : FnOk P w K mg base CX (k + 1) f fd ps sp := by
  obtain ⟨oc, od, kV, doc, pm, an, cdv, ct, osl, rfl, lk, hcd⟩ := F.ex
  exact fn_of lk hcd S len fun A outer s H vs Q E hr hsp => hbody cdv A outer s H vs Q E hr hsp
/-- a def that may raise -/
theorem dfnX {x qual : Str} {st : Stmt} {f : Addr} {fd : FuncData} {N ps : List Str} {k : Nat} {R : List D → Out → Prop} (F : Fun K x qual st f fd) (S : FnScope N ps (defScope st)) (len : ∀ ds out, R ds out → ds.length = ps.length)
    (body : ∀ ds out, R ds out → ∀ (cdv : Value) (A : Around) (outer : List Env) (s : Shared) (H : Hp) (E : XK), Room k (A.deeper (envOfC qual (defScope st) s.heap.objs.size f cdv)) →
      DSs (cxOf (L2N.CX P w) P w K mg base N qual (defScope st) f cdv A outer s H E) (startS N ds) (defBody st) out.ends) : FnOk P w K mg base (L2N.CX P w) (k + 1) f fd ps (spD K R) := by
  refine Fun_okN F S (fun vs H Q E h => ?_) (fun cdv A outer s H vs Q E hr h => ?_)
  · obtain ⟨B, ds, out, _, r, hR, _⟩ := h
    rw [r.length]; exact len _ _ hR
  · obtain ⟨B, ds, out, al, r, hR, hk⟩ := h
    refine ⟨_, pss_ss, ?_⟩
    exact body ds out hR cdv A outer s H E hr B [] (L2.start N vs) H H _ (fun cls d _ H => E cls d H) (L2N.takes_of rfl rfl rfl rfl) ⟨slots_start (by rw [List.nil_append]; exact r), al, fun b hb => by cases hb⟩ (by rw [off_nil]; exact Same.refl _)
      (out_cov hk fun C fs e cls d σ H h => h)
variable {X : Cx} {ρ : List Sl} {e : Expr} {es : List Expr} {ds : List D} {d : D} {m : MO} {p pos : Pos}
/-- a def that may raise, where it does not -/
theorem passX : Passes (L2N.CX X.prog X.w) X (fun _ _ _ => False) := fun pins σ H s e s' I ⟨_, _, _, _, _, _, _, _, _, _, _, _, h⟩ => h.elim
theorem de_call {CX : CXT} {k : Nat} {f : Addr} {fd : FuncData} {ps : List Str} {R : List D → Out → Prop} {x : Str} {E : XK} (F : FnOk X.prog X.w X.K X.mg X.base CX k f fd ps (spD X.K R)) (hr : Room k X.A) (hm : X.mg x = some (.ref f)) (hk : PySem.W.keepIn X.K (.ref f) = true)
    (hb : Binds X.K fd ps []) (hx : Passes CX X E) (ha : DA X ρ (e :: es) ds) (hR : R ds (.val d)) (hg : Gl X x := by rfl) (hd : (x == ("__debug__" : Str)) = false := by decide)
    (hs : starEach (e :: es) X.env = (false, eval e X.env) :: starEach es X.env := by rfl) (hpl : (backTo pos (starEach es X.env)).any (·.1) = false := by rfl) : DE X ρ (.Call (.Name x p) (e :: es) [] pos) d := fun B O σ H Q A kk =>
  (pe_call F hr hg hm hk hb .nil hx pa_sa hd hs hpl).se (ha B O σ H _ A fun vs H1 s1 r1 => by
    rw [List.append_nil]
    exact ⟨O ++ B, ds, .val d, A.all.mono s1, r1, hR, kk.grow s1⟩)
theorem df_call {CX : CXT} {k : Nat} {f : Addr} {fd : FuncData} {ps : List Str} {R : List D → Out → Prop} {x : Str} {E : XK} (F : FnOk X.prog X.w X.K X.mg X.base CX k f fd ps (spD X.K R)) (hr : Room k X.A) (hm : X.mg x = some (.ref f)) (hk : PySem.W.keepIn X.K (.ref f) = true)
    (hb : Binds X.K fd ps []) (hx : Passes CX X E) (ha : DA X ρ (e :: es) ds) (hR : R ds (.new m)) (hg : Gl X x := by rfl) (hd : (x == ("__debug__" : Str)) = false := by decide)
    (hs : starEach (e :: es) X.env = (false, eval e X.env) :: starEach es X.env := by rfl) (hpl : (backTo pos (starEach es X.env)).any (·.1) = false := by rfl) : DF X ρ (.Call (.Name x p) (e :: es) [] pos) m := fun B O σ H Q A kk =>
  (pe_call F hr hg hm hk hb .nil hx pa_sa hd hs hpl).se (ha B O σ H _ A fun vs H1 s1 r1 => by
    rw [List.append_nil]
    exact ⟨O ++ B, ds, .new m, A.all.mono s1, r1, hR, kk.grow s1⟩)
/-- e raises -/
def DEX (X : Cx) (ρ : List Sl) (e : Expr) (C : Addr) (fs : Option (List (Str × D))) : Prop := ∀ B O σ H Q W, L2N.Takes X W → At X.K B O σ H ρ → (∀ H' od, Same H H' → ExcD X.K (off (O ++ B) H') od fs → W (.ref C) od σ H') → SE X e σ H Q
theorem dx_call {k : Nat} {f : Addr} {fd : FuncData} {ps : List Str} {R : List D → Out → Prop} {x : Str} {C : Addr} {fs : Option (List (Str × D))} (F : FnOk X.prog X.w X.K X.mg X.base (L2N.CX X.prog X.w) k f fd ps (spD X.K R)) (hr : Room k X.A) (hm : X.mg x = some (.ref f)) (hk : PySem.W.keepIn X.K (.ref f) = true)
    (hb : Binds X.K fd ps []) (ha : DA X ρ (e :: es) ds) (hR : R ds (.exc C fs)) (hg : Gl X x := by rfl) (hd : (x == ("__debug__" : Str)) = false := by decide)
    (hs : starEach (e :: es) X.env = (false, eval e X.env) :: starEach es X.env := by rfl) (hpl : (backTo pos (starEach es X.env)).any (·.1) = false := by rfl) : DEX X ρ (.Call (.Name x p) (e :: es) [] pos) C fs := fun B O σ H Q W T A kk =>
  (pe_callS F hr hg hm hk hb (E := WE W) (fun σ => L2N.passAt T σ) pa_sa hd hs hpl).se (ha B O σ H _ A fun vs H1 s1 r1 =>
    ⟨O ++ B, ds, .exc C fs, A.all.mono s1, r1, hR, fun H' od s' r => kk H' od (s1.trans s') r⟩)
variable {D' : DEnds} {C : Addr} {fs : Option (List (Str × D))} {pos' : Pos} {B O : List Addr} {σ : L2.St} {H H0 : Hp} {De : Ends} {W : WX}
theorem ds_exprX (he : DEX X ρ e C fs) (k : D'.ex C fs ρ) (hs : swapsWith e none pos.line X.env = pure false := by rfl) : DS X ρ (.Expr e pos) D' := fun B O σ H H0 De W T A s0 Cv =>
  (ps_expr pe_se hs).ss (he B O σ H _ W T A fun H1 od s1 r => Cv.ex _ _ _ _ _ _ _ k (A.grow s1) (keep_grow s0 s1) r)
theorem ds_setX {i : Nat} {x : Str} (hN : X.N.Nodup) (he : DEX X ρ e C fs) (k : D'.ex C fs ρ) (hi : X.N[i]? = some x) (hl : Loc X.env.scope x)
    (hs : swapsWith e (some (.Name x pos')) pos.line X.env = pure false := by rfl) (hf : X.fn x = true ∨ X.env.scope.names.lookup x = some .local := by first | exact .inl rfl | exact .inr rfl) : DS X ρ (.Assign [.Name x pos'] e pos) D' := fun B O σ H H0 De W T A s0 Cv =>
  (ps_set hN hi hl pe_se hs hf).ss (he B O σ H _ W T A fun H1 od s1 r => Cv.ex _ _ _ _ _ _ _ k (A.grow s1) (keep_grow s0 s1) r)
theorem ds_retX (he : DEX X ρ e C fs) (k : D'.ex C fs ρ) : DS X ρ (.Return (some e) pos) D' := fun B O σ H H0 De W T A s0 Cv =>
  (ps_ret pe_se).ss (he B O σ H _ W T A fun H1 od s1 r => Cv.ex _ _ _ _ _ _ _ k (A.grow s1) (keep_grow s0 s1) r)
/-! ### raise -/
/-- e makes an exception -/
def DMk (X : Cx) (ρ : List Sl) (e : Expr) (C : Addr) (fs : Option (List (Str × D))) : Prop := ∀ B O σ H (Q : XK), At X.K B O σ H ρ → (∀ H' od, Same H H' → ExcD X.K (off (O ++ B) H') od fs → Q (.ref C) od H') → ∀ (pins : List (Addr × Obj)) (s : Shared), Inv X pins σ H s →
  wpAny (model X.prog X.w) X.A (eval e X.env) (L2N.MkP X pins σ Q) X.xe s
theorem ds_raise (hc : X.calm = true) (he : DMk X ρ e C fs) (k : D'.ex C fs ρ) : DS X ρ (.Raise (some e) none pos) D' := fun B O σ H H0 De W T A s0 Cv =>
  (L2N.ps_raise (t := fun σ H Q => ∀ (pins : List (Addr × Obj)) (s : Shared), Inv X pins σ H s → wpAny (model X.prog X.w) X.A (eval e X.env) (L2N.MkP X pins σ Q) X.xe s) hc T (fun pins s σ H Q I h => h pins s I)).ss
    (he B O σ H _ A fun H1 od s1 r => Cv.ex _ _ _ _ _ _ _ k (A.grow s1) (keep_grow s0 s1) r)
/-- what is known of an own exception class without __init__, at C -/
structure Exc0 (K : PySem.W.Frag) (C : Addr) (bm : List Value) : Prop where
  q : PySem.W.excIn K C bm "ValueError.__new__" = true
  kC : PySem.W.keepIn K (.ref C) = true
  sb : PySem.W.subIn K (.ref C) (.type "BaseException") = some true
  ty : PySem.W.typeIn K (.ref C) = some (.type "type")
theorem dmk_own0 {x : Str} {bm : List Value} (F : ExcBaseFacts "ValueError" "ValueError.__new__" "ValueError.__init__" bm) (T : Exc0 X.K C bm) (gC : X.mg x = some (.ref C)) (hg : Gl X x := by rfl) (hdb : (x == ("__debug__" : Str)) = false := by decide) :
    DMk X ρ (.Call (.Name x p) [] [] pos) C none := by
  intro B O σ H Q A k pins s I
  refine wpAny_Call_Name_kw (ld_glob I hg gC ?_ hdb)
  refine PySem.W.callWith_K0 I.kIn T.kC ?_
  show wpAny _ _ (call (.ref C) []) _ _ _
  obtain ⟨bm', N, nm, qn, bs, hdct, sn, sub, ab, col, dd, k0, k1, k2, k3, k5, mN, hC, hN, hni, TT⟩ := exc_obj I.kIn T.q
  refine wpAny_call_exc_subT F TT hC hN hni (fun h' e hm => ?_) (by show 0 ≤ sizeLine; exact Nat.zero_le _)
  exact L2N.mk_of I hm (raises_own T.sb T.ty) (k H none (Same.refl _) .none) (I.hok.gone hm.new)
end
end DL
set_option Elab.async false
set_option linter.all false
set_option maxRecDepth 100000
set_option maxHeartbeats 2000000
/-! DL6: try .. except (several clauses, with a name or without), the exception as data; isinstance. -/
namespace DL
open PySem PySem.Spec PyProof.Rows L2

section
variable {X : Cx} {pins : List (Addr × Obj)} {σ : L2.St} {H : Hp} {s : Shared}
theorem pnOk_of (J : Inv X pins σ H s) {a : Addr} {B : Heap} (nb : ∀ b o, s.heap.get? b = some o → b ∉ frs X.stack → B.get? b = some o) (hB : B.get? a = none) : ∀ p ∈ X.pn ++ pins, p.1 ≠ a := fun p hp z => by
  obtain ⟨e, n, ne, nf, d⟩ := J.pin p hp
  have hst : p.1 ∉ frs X.stack := fun hm => (List.mem_cons.mp (J.stkSub _ hm)).elim ne nf
  have := nb _ _ e hst
  rw [z, hB] at this; cases this
/-- the exception in hand is tracked from here on -/
theorem Inv.track (I : Inv X pins σ H s) {a : Addr} {oe : Obj} {vs : Array Value} (ha : s.heap.get? a = some oe) (hd : oe.data = .fields vs) (na : H a = none) (nL : a ≠ X.env.locals) (h0 : X.s_0.heap.get? a = none) (hp : ∀ p ∈ X.pn ++ pins, p.1 ≠ a) :
    Inv (X.suite a (X.pn ++ pins)) [] σ (upd H a (xo oe a)) s := by
  have ne : ∀ b u, H b = some u → b ≠ a := fun b u e z => by rw [z, na] at e; cases e
  refine ⟨I.ok.suite _ _, I.os, I.bare, ⟨I.base.keep, I.base.slot, fun b o e n hx => ?_, I.base.there, fun b xs e => ?_, fun b o u e => ?_, fun b ps e => ?_⟩, I.loc, I.cell, ?_, fun x c e => ?_, fun p hq => ?_, fun b u e => ?_, I.len⟩
  · have : b ≠ a := fun z => by rw [z, h0] at e; cases e
    rw [upd_ne this]; exact I.base.free b o e n hx
  · have q := I.base.tups b xs e
    rw [upd_ne (ne _ _ q)]; exact q
  · have q := I.base.frzs b o u e
    rw [upd_ne (ne _ _ q)]; exact q
  · obtain ⟨m, q⟩ := I.base.tbls b ps e
    exact ⟨m, by rw [upd_ne (ne _ _ q)]; exact q⟩
  · rw [upd_ne (Ne.symm nL)]; exact I.free
  · obtain ⟨v, o, ho, hod⟩ := I.cell x c e
    have : c ≠ a := fun z => by rw [z, ha] at ho; cases ho; rw [hd] at hod; cases hod
    rw [upd_ne this]; exact I.freeC x c e
  · have hq' : p ∈ X.pn ++ pins := by rw [List.append_nil] at hq; exact hq
    obtain ⟨e, n, ne', nf, d⟩ := I.pin p hq'
    exact ⟨e, by rw [upd_ne (hp p hq')]; exact n, ne', nf, d⟩
  · by_cases hb : b = a
    · subst hb
      rw [upd_same] at e; cases e
      exact ⟨ha, ha, ⟨_, ha⟩, fun h1 h2 e1 k => k _ e1⟩
    · rw [upd_ne hb] at e
      exact (I.hok b u e).stay (fun c v _ q => q) (fun c q => by rw [upd_ne (ne _ _ q)]; exact q) fun c xs q => by rw [upd_ne (ne _ _ q)]; exact q
theorem Inv.untrack {a : Addr} {pn' : List (Addr × Obj)} (I : Inv (X.suite a (X.pn ++ pins)) pn' σ H s) (ok : X.Ok) : Inv X pins σ H s :=
  ⟨ok, I.os, I.bare, I.base, I.loc, I.cell, I.free, I.freeC, fun p hp => I.pin p (List.mem_append_left _ hp), I.hok, I.len⟩
end
/-- what the clauses wish of an exception -/
def wT (K : PySem.W.Frag) (Wout : WX) (D : Ends) : List (Value × (Addr → TS)) → WX
  | [] => Wout
  | (c, ts) :: r => fun cls d σ H => ∃ b, PySem.W.exmOne K cls c = some b ∧ (b = true → ∀ a oe, H a = none → Zc cls d oe → (∃ vs, oe.data = .fields vs) → ts a D σ (upd H a (xo oe a))) ∧ (b = false → wT K Wout D r cls d σ H)
def asEnds (i : Nat) (D : Ends) : Ends := { nx := fun σ' H' => D.nx (σ'.set i none) H', rt := D.rt, bk := fun σ' H' => D.bk (σ'.set i none) H', ct := fun σ' H' => D.ct (σ'.set i none) H' }
inductive HdsT (X : Cx) : List ExceptHandler → List (Value × (Addr → TS)) → Prop
  | nil : HdsT X [] []
  | one {x : Str} {c : Value} {ts : Addr → TS} {b₀ : Stmt} {suite : List Stmt} {np pos' : Pos} {hds : List ExceptHandler} {l : List (Value × (Addr → TS))} (hc : Names X x c)
      (hsu : ∀ (a : Addr) (pn : List (Addr × Obj)), PSs (X.suite a pn) (b₀ :: suite) (ts a)) (r : HdsT X hds l) : HdsT X (.ExceptHandler (some (.Name x np)) none (b₀ :: suite) pos' :: hds) ((c, ts) :: l)
  | as {x n : Str} {i : Nat} {c : Value} {ts : Addr → TS} {b₀ : Stmt} {suite : List Stmt} {np pos' : Pos} {hds : List ExceptHandler} {l : List (Value × (Addr → TS))} (hi : X.N[i]? = some n) (hln : X.env.kindOf n = some .local) (hc : Names X x c)
      (hsu : ∀ (a : Addr) (pn : List (Addr × Obj)), PSs (X.suite a pn) (b₀ :: suite) (ts a)) (r : HdsT X hds l) : HdsT X (.ExceptHandler (some (.Name x np)) (some n) (b₀ :: suite) pos' :: hds) ((c, fun a D σ H => ts a (asEnds i D) (σ.set i (some (.ref a))) H) :: l)
section
variable {X : Cx} {body : List Stmt} {h₀ : ExceptHandler} {hds : List ExceptHandler} {l : List (Value × (Addr → TS))} {pos : Pos} {tb : WX → TS} {Wout : WX}
theorem ps_tryT (hs : X.stack = X.env :: X.outer) (hf : X.env.frame = some X.env.locals) (hN : X.N.Nodup) (hex : X.ex = []) (tk : L2N.Takes X Wout)
    (hb : ∀ (W : WX) (pn : List (Addr × Obj)) (xe : Value → Shared → Prop), L2N.Takes (X.tr pn xe) W → PassesOwn (model X.prog X.w) X.A X.env xe → PSs (X.tr pn xe) body (tb W))
    (hh : HdsT X (h₀ :: hds) l) : PS X (.Try body (h₀ :: hds) [] [] pos) (fun D σ H => tb (wT X.K Wout D l) D σ H) := by
  refine ⟨fun pins s σ H D I h => ?_⟩
  have ok := I.ok
  have hfr : X.A.frames = some (X.env :: X.outer) := by rw [ok.frames, hs]
  refine wpAny_Try_except ?_
  refine wpAny_mono ((hb (wT X.K Wout D l) (X.pn ++ pins) (fun e s₁ => wpAny (model X.prog X.w) X.A (noteFrame e X.env) (fun _ s₂ => wpAny (model X.prog X.w) X.A (setFlight e none) (fun _ s₃ =>
    wpAny (model X.prog X.w) X.A (handleBy e X.env (h₀ :: hds)) (SP X pins D) X.xe s₃) X.xe s₂) X.xe s₁) (fun u s' xx => ?_) PassesOwn.looking).run [] s σ H D (I.toTry _) h) (fun f s1 hsp => ?_) (fun e s1 he => he)
  · obtain ⟨a, B, sI, pins', σ', H', cls, d, rfl, J', nb, up, sky, na, os, ag, w⟩ := xx
    have J : Inv X pins σ' H' sI := J'.ofTry ok
    have sky' : Sky B (X.env :: X.outer) a (L2N.Zn cls d) X.env.locals s'.heap := by rw [← hs]; exact sky
    show wpAny (model X.prog X.w) X.A (noteFrame (.ref a) X.env) _ _ _
    refine L2N.Sky.land L2N.Zn.steady hfr hf sky' fun h3 fl3 up3 => ?_
    have J3 : Inv X pins σ' H' { s' with heap := h3 } := J.landed nb fl3.1 (up.trans up3) os ag
    obtain ⟨oe3, vs3, he3, hz3, hd3⟩ := fl3.there
    have notFr : ∀ {h : Heap} {o : Obj} {vs : Array Value}, h.FunFrames B (X.env :: X.outer) → h.get? a = some o → o.data = .fields vs → a ∉ frs (X.env :: X.outer) := fun {h o vs} ff e dd hm => by
      obtain ⟨_, o', e', hnf⟩ := ff.mem hm
      rw [e] at e'; cases e'
      exact hnf _ dd
    have nfr := notFr fl3.2.2.1 he3 hd3
    have nL : a ≠ X.env.locals := fun z => nfr (List.mem_filterMap.mpr ⟨X.env, List.mem_cons_self, by rw [hf, z]⟩)
    have nF : a ∉ X.fs := fun hm => by
      obtain ⟨e, he, q⟩ := List.mem_filterMap.mp hm
      exact nfr (List.mem_filterMap.mpr ⟨e, List.mem_cons_of_mem _ he, q⟩)
    have hpn := pnOk_of J nb fl3.2.1
    have h0 : X.s_0.heap.get? a = none := by
      cases q : X.s_0.heap.get? a with
      | none => rfl
      | some o =>
        obtain ⟨o', e1⟩ := J.base.there a o q (by rw [hex]; intro z; cases z)
        have := nb a o' e1 (by rw [hs]; exact nfr)
        rw [fl3.2.1] at this; cases this
    have S3 := J3.suite he3 hd3 na nL nF
    have go : ∀ {hds' : List ExceptHandler} {l' : List (Value × (Addr → TS))}, HdsT X hds' l' → wT X.K Wout D l' cls d σ' H' →
        wpAny (model X.prog X.w) X.A (handleBy (.ref a) X.env hds') (SP X pins D) X.xe { s' with heap := h3 } := by
      intro hds' l' hk
      induction hk with
      | nil =>
        intro w
        refine wpAny_handleBy_nil ?_
        obtain ⟨k1, k2, k3, oe, vs, T, oT, ts', he, hz, hd, h1, hr⟩ := id fl3
        unfold PySem.passOn
        refine wpAny_bind (wpAny_field he hd h1 ?_)
        rw [if_neg (show ¬ ((Value.ref T == Value.none) = true) from by simp)]
        have fin : wpAny (model X.prog X.w) X.A (setFlight (.ref a) X.env.frame) (fun _ s4 => wpAny (model X.prog X.w) X.A (throw (.ref a) : Sem Flow) (SP X pins D) X.xe s4) X.xe { s' with heap := h3 } := by
          rw [hf]
          refine HandSPX.setFlight_upZ fl3 fun h4 hh4 up4 => wpAny_throw (tk _ _ ?_)
          exact ⟨a, B, sI, pins, σ', H', cls, d, rfl, J, nb, (up.trans up3).trans up4, .inr (.inr (by rw [hs]; exact hh4)), na, os, ag, w⟩
        first
          | exact wpAny_bind (wpAny_pure (wpAny_bind fin))
          | exact wpAny_bind fin
      | @one x c ts b₀ suite np pos' hds2 l2 hc hsu r ih =>
        intro w
        obtain ⟨b, hb1, hyes, hno⟩ := w
        refine wpAny_handleBy_cons (codeAny_handlers_test ?_) (by intro q; cases q)
        have LT : PySem.W.Looks (model X.prog X.w) h3 (typeOf (.ref a)) cls := fun A Q E s k q => wpAny_typeOf_ref (k _ _ he3) (by rw [hz3.1]; exact q)
        have LM := PySem.W.exm_one (M := model X.prog X.w) (J3.kIn) LT hb1
        have test : ∀ {Q : Value → Shared → Prop} {E : Value → Shared → Prop}, Q c { s' with heap := h3 } → wpAny (model X.prog X.w) (X.A.mark (some (.ref a))) (eval (.Name x np) X.env) Q E { s' with heap := h3 } := fun {Q E} q => by
          obtain ⟨hg, hdbg, hm | ⟨hm, hv, hnn⟩⟩ := hc
          · exact ld_glob (X := X.suite a ((a, oe3) :: (X.pn ++ pins))) S3 hg hm q hdbg
          · exact ld_blt (X := X.suite a ((a, oe3) :: (X.pn ++ pins))) S3 hg hm hv q hnn hdbg
        refine test (LM.here ?_)
        cases b with
        | true =>
          refine codeAny_handlers_suite ?_
          refine HandSPX.lands_againZ fl3 fun h4 fl4 up4 => ?_
          have J4 : Inv X pins σ' H' { s' with heap := h4 } := J.landed nb fl4.1 ((up.trans up3).trans up4) os ag
          obtain ⟨oe4, vs4, he4, hz4, hd4⟩ := fl4.there
          have S4 := Inv.track J4 he4 hd4 na nL h0 hpn
          refine wpAny_mono ((hsu a (X.pn ++ pins)).run [] _ _ _ _ S4 (hyes rfl a oe4 na hz4.zc ⟨_, hd4⟩)) (fun f s6 hsp => ?_) (fun _ _ z => False.elim z)
          cases f with
          | next =>
            obtain ⟨σ6, H6, S6, q6⟩ := hsp
            exact ⟨_, _, Inv.untrack S6 ok, q6⟩
          | brk =>
            obtain ⟨σ6, H6, S6, q6⟩ := hsp
            exact ⟨_, _, Inv.untrack S6 ok, q6⟩
          | cont =>
            obtain ⟨σ6, H6, S6, q6⟩ := hsp
            exact ⟨_, _, Inv.untrack S6 ok, q6⟩
          | ret u =>
            obtain ⟨v6, σ6, H6, S6, r6, q6⟩ := hsp
            exact ⟨_, _, _, Inv.untrack S6 ok, r6, q6⟩
        | false =>
          show wpAny _ X.A (handleBy (.ref a) X.env hds2) _ _ _
          exact ih (hno rfl)
      | @as x n i c ts b₀ suite np pos' hds2 l2 hi hln hc hsu r ih =>
        intro w
        obtain ⟨b, hb1, hyes, hno⟩ := w
        have hloc : Loc X.env.scope n := .inl hln
        refine wpAny_handleBy_cons (codeAny_handlers_test ?_) (by intro q; cases q)
        have LT : PySem.W.Looks (model X.prog X.w) h3 (typeOf (.ref a)) cls := fun A Q E s k q => wpAny_typeOf_ref (k _ _ he3) (by rw [hz3.1]; exact q)
        have LM := PySem.W.exm_one (M := model X.prog X.w) (J3.kIn) LT hb1
        have test : ∀ {Q : Value → Shared → Prop} {E : Value → Shared → Prop}, Q c { s' with heap := h3 } → wpAny (model X.prog X.w) (X.A.mark (some (.ref a))) (eval (.Name x np) X.env) Q E { s' with heap := h3 } := fun {Q E} q => by
          obtain ⟨hg, hdbg, hm | ⟨hm, hv, hnn⟩⟩ := hc
          · exact ld_glob (X := X.suite a ((a, oe3) :: (X.pn ++ pins))) S3 hg hm q hdbg
          · exact ld_blt (X := X.suite a ((a, oe3) :: (X.pn ++ pins))) S3 hg hm hv q hnn hdbg
        refine test (LM.here ?_)
        cases b with
        | true =>
          refine codeAny_handlers_suite_as ?_
          refine HandSPX.lands_againZ fl3 fun h4 fl4 up4 => ?_
          have J4 : Inv X pins σ' H' { s' with heap := h4 } := J.landed nb fl4.1 ((up.trans up3).trans up4) os ag
          obtain ⟨oe4, vs4, he4, hz4, hd4⟩ := fl4.there
          have S4 := Inv.track J4 he4 hd4 na nL h0 hpn
          refine store_ok (X := X.suite a (X.pn ++ pins)) (v := .ref a) S4 hN hi hloc rfl (fun s5 S5 => ?_) (.inr hln)
          refine wpAny_mono ((hsu a (X.pn ++ pins)).run [] s5 _ _ _ S5 (hyes rfl a oe4 na hz4.zc ⟨_, hd4⟩)) (fun f s6 hsp => ?_) (fun _ _ z => False.elim z)
          have end_ : ∀ {σ6 : L2.St} {H6 : Hp} {Q : Shared → Prop}, Inv (X.suite a (X.pn ++ pins)) [] σ6 H6 s6 → (∀ s7, Inv X pins (σ6.set i none) H6 s7 → Q s7) →
              wpAny (model X.prog X.w) X.A (do bindName X.env n .none; unbindBehindTheSuite X.env n pos') (fun _ s7 => Q s7) X.xe s6 := fun {σ6 H6 Q} S6 hq => gone_ok (Inv.untrack S6 ok) hN hi hln hq
          cases f with
          | next =>
            obtain ⟨σ6, H6, S6, q6⟩ := hsp
            exact end_ S6 fun s7 J7 => ⟨_, _, J7, q6⟩
          | brk =>
            obtain ⟨σ6, H6, S6, q6⟩ := hsp
            exact end_ S6 fun s7 J7 => ⟨_, _, J7, q6⟩
          | cont =>
            obtain ⟨σ6, H6, S6, q6⟩ := hsp
            exact end_ S6 fun s7 J7 => ⟨_, _, J7, q6⟩
          | ret u =>
            obtain ⟨v6, σ6, H6, S6, r6, q6⟩ := hsp
            exact end_ S6 fun s7 J7 => ⟨_, _, _, J7, r6, q6⟩
        | false =>
          show wpAny _ X.A (handleBy (.ref a) X.env hds2) _ _ _
          exact ih (hno rfl)
    exact go hh w
  · cases f with
    | next =>
      obtain ⟨σ', H', J', q⟩ := hsp
      exact wpAny_execs_nil ⟨σ', H', J'.ofTry ok, q⟩
    | brk =>
      obtain ⟨σ', H', J', q⟩ := hsp
      exact ⟨σ', H', J'.ofTry ok, q⟩
    | cont =>
      obtain ⟨σ', H', J', q⟩ := hsp
      exact ⟨σ', H', J'.ofTry ok, q⟩
    | ret u =>
      obtain ⟨v, σ', H', J', r, q⟩ := hsp
      exact ⟨v, σ', H', J'.ofTry ok, r, q⟩
end
end DL
set_option Elab.async false
set_option linter.all false
set_option maxRecDepth 100000
set_option maxHeartbeats 2000000
/-! DL7: try by data; isinstance by data. -/
namespace DL
open PySem PySem.Spec PyProof.Rows L2

theorem Slots.clrO {K : PySem.W.Frag} {H G : Hp} {σ : L2.St} {ρ : List Sl} {O : List Addr} (h : Slots K H G σ ρ O) : ∀ (i : Nat), ∃ O', (∀ b ∈ O', b ∈ O) ∧ Slots K H G (σ.set i none) (ρ.set i .emp) O' := by
  induction h with
  | nil => intro i; exact ⟨[], fun _ h => h, .nil⟩
  | emp h ih =>
    intro i
    cases i with
    | zero => exact ⟨_, fun _ h => h, .emp h⟩
    | succ i => obtain ⟨O', h1, h2⟩ := ih i; exact ⟨O', h1, .emp h2⟩
  | dat r' h ih =>
    intro i
    cases i with
    | zero => exact ⟨_, fun _ h => h, .emp h⟩
    | succ i => obtain ⟨O', h1, h2⟩ := ih i; exact ⟨O', h1, .dat r' h2⟩
  | own e m n h ih =>
    intro i
    cases i with
    | zero => exact ⟨_, fun b hb => List.mem_cons_of_mem _ hb, .emp h⟩
    | succ i =>
      obtain ⟨O', h1, h2⟩ := ih i
      refine ⟨_ :: O', fun b hb => ?_, .own e m (fun q => n (h1 _ q)) h2⟩
      rcases List.mem_cons.mp hb with rfl | hb
      · exact List.mem_cons_self
      · exact List.mem_cons_of_mem _ (h1 b hb)
/-- the clauses: class, the name's slot, suite -/
inductive HS (X : Cx) : List ExceptHandler → List (Value × Option Nat × List Stmt) → Prop
  | nil : HS X [] []
  | one {x : Str} {c : Value} {b₀ : Stmt} {suite : List Stmt} {np pos' : Pos} {hds : List ExceptHandler} {l : List (Value × Option Nat × List Stmt)} (hc : Names X x c) (r : HS X hds l) :
      HS X (.ExceptHandler (some (.Name x np)) none (b₀ :: suite) pos' :: hds) ((c, none, b₀ :: suite) :: l)
  | as {x n : Str} {i : Nat} {c : Value} {b₀ : Stmt} {suite : List Stmt} {np pos' : Pos} {hds : List ExceptHandler} {l : List (Value × Option Nat × List Stmt)} (hi : X.N[i]? = some n) (hln : X.env.kindOf n = some .local) (hc : Names X x c) (r : HS X hds l) :
      HS X (.ExceptHandler (some (.Name x np)) (some n) (b₀ :: suite) pos' :: hds) ((c, some i, b₀ :: suite) :: l)
def DEnds.noex (D : DEnds) : DEnds := { D with ex := fun _ _ _ => False }
def DEnds.as (i : Nat) (D : DEnds) : DEnds := { nx := fun ρ => D.nx (ρ.set i .emp), rt := D.rt, rm := D.rm, bk := fun ρ => D.bk (ρ.set i .emp), ct := fun ρ => D.ct (ρ.set i .emp) }
/-- what the clauses do with an exception -/
def HD (X : Cx) (D : DEnds) : List (Value × Option Nat × List Stmt) → Addr → Option (List (Str × DL.D)) → List Sl → Prop
  | [] => D.ex
  | (c, none, su) :: l => fun C fs ρ => ∃ b, PySem.W.exmOne X.K (.ref C) c = some b ∧ (b = true → ∀ a pn, DSs (X.suite a pn) ρ su D.noex) ∧ (b = false → HD X D l C fs ρ)
  | (c, some i, su) :: l => fun C fs ρ => ∃ b, PySem.W.exmOne X.K (.ref C) c = some b ∧ (b = true → ∀ a pn, DSs (X.suite a pn) (ρ.set i (.dat (.exc C fs))) su (D.as i)) ∧ (b = false → HD X D l C fs ρ)
section
variable {X : Cx} {ρ : List Sl} {body : List Stmt} {h₀ : ExceptHandler} {hds : List ExceptHandler} {l : List (Value × Option Nat × List Stmt)} {pos : Pos} {D : DEnds}
def rdOf (X : Cx) : List (Value × Option Nat × List Stmt) → List (Value × (Addr → TS))
  | [] => []
  | (c, none, su) :: l => (c, fun a D σ H => ∀ pn, SSs (X.suite a pn) su D σ H) :: rdOf X l
  | (c, some i, su) :: l => (c, fun a D σ H => ∀ pn, SSs (X.suite a pn) su (asEnds i D) (σ.set i (some (.ref a))) H) :: rdOf X l
theorem HS.hdsT (h : HS X hds l) : HdsT X hds (rdOf X l) := by
  induction h with
  | nil => exact .nil
  | one hc _ ih => exact .one hc (fun a pn => ⟨fun pins s σ H D I h => (h pn).run pins s I⟩) ih
  | @as x n i c b₀ suite np pos' hds l hi hln hc _ ih => exact .as (ts := fun a D σ H => ∀ pn, SSs (X.suite a pn) (b₀ :: suite) D σ H) hi hln hc (fun a pn => ⟨fun pins s σ H D I h => (h pn).run pins s I⟩) ih
theorem ds_try (hs : X.stack = X.env :: X.outer) (hf : X.env.frame = some X.env.locals) (hN : X.N.Nodup) (hex : X.ex = []) (hh : HS X (h₀ :: hds) l)
    (hb : ∀ pn xe, PassesOwn (model X.prog X.w) X.A X.env xe → DSs (X.tr pn xe) ρ body { D with ex := HD X D l }) : DS X ρ (.Try body (h₀ :: hds) [] [] pos) D := fun B O σ H H0 De W T A s0 Cv => by
  refine (ps_tryT (tb := fun W' De σ H => ∀ pn xe, L2N.Takes (X.tr pn xe) W' → PassesOwn (model X.prog X.w) X.A X.env xe → SSs (X.tr pn xe) body De σ H) hs hf hN hex T (fun W' pn xe T' P => ⟨fun pins s σ H D I h => (h pn xe T' P).run pins s I⟩) hh.hdsT).ss ?_
  intro pn xe T' P
  refine hb pn xe P B O σ H H0 De _ T' A s0 ⟨Cv.nx, Cv.rt, Cv.rm, Cv.bk, Cv.ct, fun C fs ρ' O' σ' H' od hD A' s' r => ?_⟩
  have go : ∀ l, HD X D l C fs ρ' → wT X.K W De (rdOf X l) (.ref C) od σ' H' := by
    intro l
    induction l with
    | nil => exact fun hD => Cv.ex _ _ _ _ _ _ _ hD A' s' r
    | cons q l ih =>
      obtain ⟨c, o, su⟩ := q
      cases o with
      | none =>
        rintro ⟨b, e, h1, h2⟩
        refine ⟨b, e, fun hb a oe na hz hfd pn => ?_, fun hb => ih (h2 hb)⟩
        refine h1 hb a pn B O' σ' _ H0 De (fun _ _ _ _ => False) takes_noneN (A'.grow (same_upd na)) (keep_grow s' (same_upd na)) ⟨Cv.nx, Cv.rt, Cv.rm, Cv.bk, Cv.ct, fun C fs ρ O σ H od h => h.elim⟩
      | some i =>
        rintro ⟨b, e, h1, h2⟩
        refine ⟨b, e, fun hb a oe na hz hfd pn => ?_, fun hb => ih (h2 hb)⟩
        have A2 := A'.grow (same_upd (o := xo oe a) na)
        have haZ : a ∉ O' ++ B := A'.all.new na
        have ha : off (O' ++ B) (upd H' a (xo oe a)) a = some (xo oe a) := by rw [off_ne haZ]; exact upd_same
        have hdr : DR X.K (off (O' ++ B) (upd H' a (xo oe a))) (.ref a) (.exc C fs) := by
          cases r with
          | none => exact .exc0 ha hz.1 hz.2 hfd
          | some e r => exact .excD ha hz.1 hz.2 hfd (off_same (same_upd na) _ _ e) (r.mono (off_same (same_upd na)))
        obtain ⟨O2, hO, hS⟩ := A2.sl.set hdr i
        refine h1 hb a pn B O2 _ _ H0 (asEnds i De) (fun _ _ _ _ => False) takes_noneN (A2.sub hO hS) ((keep_grow s' (same_upd na)).trans (off_sub hO)) ⟨fun ρ O σ H h A q => ?_, Cv.rt, Cv.rm, fun ρ O σ H h A q => ?_, fun ρ O σ H h A q => ?_, fun C fs ρ O σ H od h => h.elim⟩
        · obtain ⟨O3, h3, S3⟩ := A.sl.clrO i
          exact Cv.nx _ O3 _ _ h (A.sub h3 S3) (q.trans (off_sub h3))
        · obtain ⟨O3, h3, S3⟩ := A.sl.clrO i
          exact Cv.bk _ O3 _ _ h (A.sub h3 S3) (q.trans (off_sub h3))
        · obtain ⟨O3, h3, S3⟩ := A.sl.clrO i
          exact Cv.ct _ O3 _ _ h (A.sub h3 S3) (q.trans (off_sub h3))
  exact go l hD

/-! ### isinstance -/
variable {e a b : Expr} {d : DL.D} {p : Pos}
theorem de_bltn {x : Str} {n : String} (hg : Gl X x) (hm : X.mg x = none) (hv : bootBuiltins x = some (.type n)) (hn : x ≠ "__name__" := by decide) (hd : (x == ("__debug__" : Str)) = false := by decide) : DE X ρ (.Name x pos) (.ty n) := fun B O σ H Q A k =>
  (pe_bltn hg hm hv (v := .ty n) rfl hn hd).se (k _ _ (Same.refl _) (.ty n))
theorem de_cls {x : Str} {C : Addr} (hm : X.mg x = some (.ref C)) (hg : Gl X x := by rfl) (hd : (x == ("__debug__" : Str)) = false := by decide) : DE X ρ (.Name x pos) (.opq C) := de_glob hg hm (v := .ref C) rfl (fun _ => .opq C) hd
/-- the type of data -/
inductive TyD : DL.D → String → Prop
  | non : TyD .non "NoneType"
  | bl (b : Bool) : TyD (.bl b) "bool"
  | int (i : Int) : TyD (.int i) "int"
  | str (s : Str) : TyD (.str s) "str"
  | lst (xs : List DL.D) : TyD (.lst xs) "list"
  | tup (xs : List DL.D) : TyD (.tup xs) "tuple"
  | dic (kvs : List (Key × DL.D)) : TyD (.dic kvs) "dict"
theorem TyD.tyx {K : PySem.W.Frag} {H : Hp} {v : V} {n : String} (t : TyD d n) (r : DR K H v d) : TyX K H v (.type n) := by
  cases t with
  | non => cases r; exact .base .non
  | bl b => cases r; exact .base (.bl _)
  | int i => cases r; exact .base (.int _)
  | str s => cases r; exact .base (.str _)
  | lst xs =>
    cases r with
    | lst h _ =>
      rcases h with (h | ⟨o, h⟩) | ⟨o, its, n, h, hc, _⟩
      · exact .base (.lst h)
      · exact .base (.frz h)
      · exact .kList h hc
  | tup xs =>
    cases r with
    | tup h _ =>
      rcases h with (h | ⟨o, h⟩) | ⟨o, its, n, h, hc, _⟩
      · exact .base (.tup h)
      · exact .fTuple h
      · exact .kTuple h hc
  | dic kvs =>
    cases r with
    | dic h _ => exact .base (.dK h)
theorem de_isi {n m : String} {z : Bool} (hm : X.mg "isinstance" = none) (h : DE X ρ a d) (h' : DE X ρ b (.ty m)) (t : TyD d n) (hk : PySem.W.kitOne X.K (.type n) (.type m) = some z) (hg : Gl X "isinstance" := by rfl)
    (he : starEach (a :: [b]) X.env = (false, eval a X.env) :: starEach [b] X.env := by rfl) (he2 : starEach (b :: []) X.env = (false, eval b X.env) :: starEach [] X.env := by rfl) (hpl : (backTo pos (starEach [b] X.env)).any (·.1) = false := by rfl) :
    DE X ρ (.Call (.Name "isinstance" p) [a, b] [] pos) (.bl z) :=
  de_callB call_isi hg hm (by decide +kernel) (da_cons h (da_cons h' da_nil he2) he) (fun Z H vs Q r _ k => by
    obtain ⟨v, w, rfl, r1, r2⟩ := r.inv2
    cases r2
    exact ⟨_, _, _, _, _, rfl, .ty _, t.tyx (dr_full r1), hk, k _ _ (Same.refl _) (.bl _)⟩) (he := he) (hpl := hpl)
/-- of an exception -/
def rIsX (K : PySem.W.Frag) (D : Addr) : List V → Hp → VK → Prop := fun xs H Q => ∃ (a : Addr) (oe : Obj) (c : V) (cv : Value) (z : Bool), xs = [.ref a, c] ∧ H a = some (xo oe a) ∧ Zc (.ref D) none oe ∧ (∃ vs, oe.data = .fields vs) ∧ ClsV c cv ∧ PySem.W.kitOne K (.ref D) cv = some z ∧ Q (.bl z) H
theorem call_isX {D : Addr} (C : ExcC X.K D) : CallR X (.builtin "isinstance") (rIsX X.K D) := by
  intro pins s σ H xs us Q I r h
  obtain ⟨a, oe, c, cv, z, rfl, hH, hz, hf, hc, e, q⟩ := h
  obtain ⟨u1, u2, rfl, r1, r2⟩ := vals2 r
  cases (show u1 = Value.ref a from r1)
  have e2 := hc.eq r2
  subst e2
  have hget : s.heap.get? a = some oe := (I.hok a _ hH).1
  obtain ⟨vs, hv⟩ := hf
  have J : PySem.W.InstAt s.heap a oe D none := by
    obtain ⟨oc, od, oda, osl⟩ := oe
    obtain ⟨h1, h2⟩ := hz
    dsimp only at h1 h2 hv
    subst h1 h2 hv
    exact ⟨hget, rfl, rfl, trivial⟩
  exact PySem.W.kia_one (PySem.W.handS_kitx_exc C.hg C.hk C.hs C.hd C.ha C.hn C.ht C.hm) I.kIn J e (fun z => nomatch z) fun tk => ⟨.bl z, H, I.kept (t' := tk) fun _ _ z => z, rfl, q⟩
theorem de_isX {D : Addr} {cd : DL.D} {cv : Value} {z : Bool} (C : ExcC X.K D) (hm : X.mg "isinstance" = none) (h : DE X ρ a (.exc D none)) (h' : DE X ρ b cd) (hcd : (∃ n, cd = .ty n ∧ cv = .type n) ∨ (∃ E, cd = .opq E ∧ cv = .ref E)) (hk : PySem.W.kitOne X.K (.ref D) cv = some z)
    (hg : Gl X "isinstance" := by rfl)
    (he : starEach (a :: [b]) X.env = (false, eval a X.env) :: starEach [b] X.env := by rfl) (he2 : starEach (b :: []) X.env = (false, eval b X.env) :: starEach [] X.env := by rfl) (hpl : (backTo pos (starEach [b] X.env)).any (·.1) = false := by rfl) :
    DE X ρ (.Call (.Name "isinstance" p) [a, b] [] pos) (.bl z) :=
  de_callB (call_isX C) hg hm (by decide +kernel) (da_cons h (da_cons h' da_nil he2) he) (fun Z H vs Q r _ k => by
    obtain ⟨v, w, rfl, r1, r2⟩ := r.inv2
    obtain ⟨a', oe, rfl, g1, g2, g3⟩ : ∃ a oe, v = .ref a ∧ H a = some (xo oe a) ∧ Zc (.ref D) none oe ∧ ∃ vs, oe.data = .fields vs := by
      cases dr_full r1 with
      | exc0 h1 h2 h3 h4 => exact ⟨_, _, rfl, h1, ⟨h2, h3⟩, h4⟩
    rcases hcd with ⟨n, rfl, rfl⟩ | ⟨E, rfl, rfl⟩
    · cases r2; exact ⟨_, _, _, _, _, rfl, g1, g2, g3, .ty _, hk, k _ _ (Same.refl _) (.bl _)⟩
    · cases r2; exact ⟨_, _, _, _, _, rfl, g1, g2, g3, .own _, hk, k _ _ (Same.refl _) (.bl _)⟩) (he := he) (hpl := hpl)
end
end DL
set_option Elab.async false
set_option linter.all false
set_option maxRecDepth 100000
set_option maxHeartbeats 2000000
/-! DL8: loops by kind; sugar. -/
namespace DL
open PySem PySem.Spec PyProof.Rows L2

theorem Up.intro {M : List Sl → Prop} {ρ ρ' : List Sl} (h : M ρ') (l : Le ρ ρ') : Up M ρ := ⟨ρ', l, h⟩
section
variable {X : Cx} {ρ : List Sl} {a b it : Expr} {body : List Stmt} {items : List D} {pos p pos' : Pos} {D : DEnds}
/-- for x in range(n) -/
theorem ds_range1 (i : Nat) (n : Nat) {x : Str} {z : Int} (Iv : Nat → List Sl → Prop) (hN : X.N.Nodup) (hm : X.mg "range" = none) (hxe : PassesOwn (model X.prog X.w) X.A X.env X.xe) (hc : X.calm = true) (h : DE X ρ a (.int z)) (hz : z = (n : Int)) (hn : n < 2 ^ 62)
    (h0 : Up (Iv 0) ρ) (turn : ∀ (k : Nat) ρ', k < n → Iv k ρ' → (∀ m, ρ'[i]? ≠ some (.own m)) ∧ DSs X (ρ'.set i (.dat (.int (k : Int)))) body { D with nx := Up (Iv (k + 1)), bk := D.nx, ct := Up (Iv (k + 1)) })
    (done : ∀ ρ', Iv n ρ' → D.nx ρ') (hi : X.N[i]? = some x := by rfl) (hl : Loc X.env.scope x := by first | exact .inl rfl | exact .inr rfl) (hf : X.fn x = true ∨ X.env.scope.names.lookup x = some .local := by first | exact .inl rfl | exact .inr rfl)
    (hg : Gl X "range" := by rfl) (hs : starEach [a] X.env = [(false, eval a X.env)] := by rfl) (hfs : ∀ x, foldedSetIterable (.Call (.Name "range" p) [a] [] pos') X.env x = pure x := by intro _; rfl) :
    DS X ρ (.For (.Name x pos) (.Call (.Name "range" p) [a] [] pos') body [] pos'') D := by
  subst hz
  have e : ((n : Int)).toNat = n := by omega
  refine ds_for Iv hxe hc (di_range1 hm h (by omega) (by omega) hg hs) h0 (fun k y ρ' hy hI => ?_) (fun ρ' hI => done ρ' ?_) hfs
  · obtain ⟨hk, rfl⟩ := rangeD_get hy
    rw [e] at hk
    obtain ⟨h1, h2⟩ := turn k ρ' hk hI
    rw [Int.zero_add]
    exact ⟨_, _, dg_name i hN h1 hi hl hf, h2⟩
  · rw [rangeD_len, e] at hI; exact hI
/-- for x in range(m, n) -/
theorem ds_range2 (i : Nat) (n : Nat) {x : Str} {lo hi' : Int} (Iv : Nat → List Sl → Prop) (hN : X.N.Nodup) (hm : X.mg "range" = none) (hxe : PassesOwn (model X.prog X.w) X.A X.env X.xe) (hc : X.calm = true) (h : DE X ρ a (.int lo)) (h' : DE X ρ b (.int hi')) (hz : (hi' - lo).toNat = n) (hb : -(2 ^ 62) ≤ lo ∧ lo < 2 ^ 62 ∧ -(2 ^ 62) ≤ hi' ∧ hi' < 2 ^ 62)
    (h0 : Up (Iv 0) ρ) (turn : ∀ (k : Nat) ρ', k < n → Iv k ρ' → (∀ m, ρ'[i]? ≠ some (.own m)) ∧ DSs X (ρ'.set i (.dat (.int (lo + (k : Int))))) body { D with nx := Up (Iv (k + 1)), bk := D.nx, ct := Up (Iv (k + 1)) })
    (done : ∀ ρ', Iv n ρ' → D.nx ρ') (hi : X.N[i]? = some x := by rfl) (hl : Loc X.env.scope x := by first | exact .inl rfl | exact .inr rfl) (hf : X.fn x = true ∨ X.env.scope.names.lookup x = some .local := by first | exact .inl rfl | exact .inr rfl)
    (hg : Gl X "range" := by rfl) (hs : starEach [a, b] X.env = [(false, eval a X.env), (false, eval b X.env)] := by rfl) (hs2 : starEach [b] X.env = [(false, eval b X.env)] := by rfl) (hfs : ∀ x, foldedSetIterable (.Call (.Name "range" p) [a, b] [] pos') X.env x = pure x := by intro _; rfl) :
    DS X ρ (.For (.Name x pos) (.Call (.Name "range" p) [a, b] [] pos') body [] pos'') D := by
  refine ds_for Iv hxe hc (di_range2 hm h h' hb hg hs hs2) h0 (fun k y ρ' hy hI => ?_) (fun ρ' hI => done ρ' ?_) hfs
  · obtain ⟨hk, rfl⟩ := rangeD_get hy
    rw [hz] at hk
    obtain ⟨h1, h2⟩ := turn k ρ' hk hI
    exact ⟨_, _, dg_name i hN h1 hi hl hf, h2⟩
  · rw [rangeD_len, hz] at hI; exact hI
/-- for x in a list -/
theorem ds_each (i : Nat) {x : Str} (Iv : Nat → List Sl → Prop) (hN : X.N.Nodup) (hxe : PassesOwn (model X.prog X.w) X.A X.env X.xe) (hc : X.calm = true) (h : DE X ρ it (.lst items))
    (h0 : Up (Iv 0) ρ) (turn : ∀ (k : Nat) y ρ', items[k]? = some y → Iv k ρ' → (∀ m, ρ'[i]? ≠ some (.own m)) ∧ DSs X (ρ'.set i (.dat y)) body { D with nx := Up (Iv (k + 1)), bk := D.nx, ct := Up (Iv (k + 1)) })
    (done : ∀ ρ', Iv items.length ρ' → D.nx ρ') (hi : X.N[i]? = some x := by rfl) (hl : Loc X.env.scope x := by first | exact .inl rfl | exact .inr rfl) (hf : X.fn x = true ∨ X.env.scope.names.lookup x = some .local := by first | exact .inl rfl | exact .inr rfl)
    (hfs : ∀ x, foldedSetIterable it X.env x = pure x := by intro _; rfl) :
    DS X ρ (.For (.Name x pos) it body [] pos'') D :=
  ds_for Iv hxe hc (di_list h) h0 (fun k y ρ' hy hI => by
    obtain ⟨h1, h2⟩ := turn k y ρ' hy hI
    exact ⟨_, _, dg_name i hN h1 hi hl hf, h2⟩) done hfs
/-- a comprehension over one name -/
theorem df_lc1 {elt : Expr} {ifs : List Expr} {scope : Scope} (i : Nat) {x : Str} {α : Type} {items : List α} {f : α → DL.D} (t : α → Bool) (g : α → DL.D) (hc : X.calm = true) (hN : X.N.Nodup) (hi : DI X ρ (.Name x p) it (items.map f)) (ok : blkC X.N X.env.scope scope [(x, i)] = true) (hsz : items.length ≤ sizeLine)
    (hel : ∀ y ∈ items, ∀ (s : Shared) (H : Hp) (C : Addr) (cl : List (Str × Addr)) (fp : List Addr), DTs (X.blk s H scope (compEnvC scope cl C X.env) fp) (ρ.set i (.dat (f y))) ifs (t y) ∧ (t y = true → DE (X.blk s H scope (compEnvC scope cl C X.env) fp) (ρ.set i (.dat (f y))) elt (g y)))
    (hw : ∀ m, ρ[i]? ≠ some (.own m) := by intro m h; cases h) (hxi : X.N[i]? = some x := by rfl) (hl : Loc (relabel scope X.env) x := by first | exact .inl rfl | exact .inr rfl) (hf : (scope.names.lookup x == some NameKind.cell) = true ∨ (relabel scope X.env).names.lookup x = some .local := by first | exact .inr rfl | exact .inl rfl) (hfs : ∀ x, foldedSetIterable it X.env x = pure x := by intro _; rfl) :
    DF X ρ (.ListComp elt [⟨.Name x p, it, ifs, 0⟩] scope pos) (.lst ((items.filter t).map g)) := by
  refine df_lc [(x, i)] t g hc hN hi (blkOk_by ok) hsz (fun y hy => ⟨[i], ρ.set i (.dat (f y)), by simp, fun s H C cl fp => ⟨?_, hel y hy s H C cl fp⟩⟩) (by intro j hj m h; simp at hj; subst hj; exact hw m h) hfs
  have h := dg_name (X := X.blk s H scope (compEnvC scope cl C X.env) fp) (ρ := wipeS ρ [i]) (d := f y) (pos := p) i hN (by
    intro m h
    unfold wipeS wipeS at h
    by_cases hlt : i < ρ.length
    · rw [List.getElem?_set_self hlt] at h; cases h
    · rw [List.getElem?_eq_none (by rw [List.length_set]; omega)] at h; cases h) hxi hl hf
  have e : (wipeS ρ [i]).set i (.dat (f y)) = ρ.set i (.dat (f y)) := by unfold wipeS wipeS; rw [List.set_set]
  rw [e] at h
  exact h
theorem ds_setLc1 {elt : Expr} {ifs : List Expr} {scope : Scope} {y' : Str} {py spos : Pos} (j : Nat) (i : Nat) {x : Str} {α : Type} {items : List α} {f : α → DL.D} (t : α → Bool) (g : α → DL.D) (hc : X.calm = true) (hN : X.N.Nodup) (hi : DI X ρ (.Name x p) it (items.map f)) (ok : blkC X.N X.env.scope scope [(x, i)] = true) (hsz : items.length ≤ sizeLine)
    (hel : ∀ y ∈ items, ∀ (s : Shared) (H : Hp) (C : Addr) (cl : List (Str × Addr)) (fp : List Addr), DTs (X.blk s H scope (compEnvC scope cl C X.env) fp) (ρ.set i (.dat (f y))) ifs (t y) ∧ (t y = true → DE (X.blk s H scope (compEnvC scope cl C X.env) fp) (ρ.set i (.dat (f y))) elt (g y)))
    (k : D.nx (ρ.set j (.own (.lst ((items.filter t).map g)))))
    (hlt : j < ρ.length := by first | decide | simp [startS]) (hy : X.N[j]? = some y' := by rfl) (hyl : X.env.scope.names.lookup y' = some .local := by rfl) (hsw : swapsWith (.ListComp elt [⟨.Name x p, it, ifs, 0⟩] scope pos) (some (.Name y' py)) spos.line X.env = pure true := by exact sw_true rfl rfl rfl (by decide +kernel))
    (hw : ∀ m, ρ[i]? ≠ some (.own m) := by intro m h; cases h) (hxi : X.N[i]? = some x := by rfl) (hl : Loc (relabel scope X.env) x := by first | exact .inl rfl | exact .inr rfl) (hf : (scope.names.lookup x == some NameKind.cell) = true ∨ (relabel scope X.env).names.lookup x = some .local := by first | exact .inr rfl | exact .inl rfl) (hfs : ∀ x, foldedSetIterable it X.env x = pure x := by intro _; rfl) :
    DS X ρ (.Assign [.Name y' py] (.ListComp elt [⟨.Name x p, it, ifs, 0⟩] scope pos) spos) D := by
  refine ds_setLc j [(x, i)] t g hc hN hi (blkOk_by ok) hsz (fun y hy => ⟨[i], ρ.set i (.dat (f y)), by simp, fun s H C cl fp => ⟨?_, hel y hy s H C cl fp⟩⟩) k hlt hy hyl hsw (by intro j hj m h; simp at hj; subst hj; exact hw m h) hfs
  have h := dg_name (X := X.blk s H scope (compEnvC scope cl C X.env) fp) (ρ := wipeS ρ [i]) (d := f y) (pos := p) i hN (by
    intro m h
    unfold wipeS wipeS at h
    by_cases hlt : i < ρ.length
    · rw [List.getElem?_set_self hlt] at h; cases h
    · rw [List.getElem?_eq_none (by rw [List.length_set]; omega)] at h; cases h) hxi hl hf
  have e : (wipeS ρ [i]).set i (.dat (f y)) = ρ.set i (.dat (f y)) := by unfold wipeS wipeS; rw [List.set_set]
  rw [e] at h
  exact h
end
end DL
set_option Elab.async false
set_option linter.all false
set_option maxRecDepth 100000
set_option maxHeartbeats 2000000
/-! DL9: is True, max with default=. -/
namespace DL
open PySem PySem.Spec PyProof.Rows L2
section
variable {X : Cx} {ρ : List Sl} {e a b : Expr} {d : D} {pos p kpos : Pos}
def D.isB : D → Bool → Bool
  | .bl c, b => c == b
  | _, _ => false
theorem op_isB {z : Bool} : OpR X (compareOp .Is) (fun x y H Q => y = .bl z ∧ Q (.bl (decide (x = .bl z))) H) := by
  intro pins s σ H x y v u Q I rx ry h
  obtain ⟨rfl, q⟩ := h
  cases (show u = Value.bool z from ry)
  have fin : ∀ k : Bool, k = decide (x = .bl z) → EP X pins σ Q (.bool k) s := fun k e => by subst e; exact ⟨.bl _, H, I, rfl, q⟩
  cases x with
  | non => cases (show v = Value.none from rx); exact wpAny_pure (fin _ rfl)
  | bl c => cases (show v = Value.bool c from rx); exact wpAny_pure (fin _ (by cases c <;> cases z <;> rfl))
  | int i => obtain ⟨t, rfl⟩ := (show ∃ t, v = Value.int i t from rx); exact wpAny_pure (fin _ rfl)
  | str i => obtain ⟨t, rfl⟩ := (show ∃ t, v = Value.str i t from rx); exact wpAny_pure (fin _ rfl)
  | byt i => obtain ⟨t, rfl⟩ := (show ∃ t, v = Value.bytes i t from rx); exact wpAny_pure (fin _ rfl)
  | flt i => obtain ⟨t, rfl⟩ := (show ∃ t, v = Value.float i t from rx); exact wpAny_pure (fin _ rfl)
  | ref i => cases (show v = Value.ref i from rx); exact wpAny_pure (fin _ rfl)
  | ty i => cases (show v = Value.type i from rx); exact wpAny_pure (fin _ rfl)
theorem c_isB {z : Bool} : CmpD X .Is d (.bl z) (d.isB z) := ⟨_, op_isB, fun Z H x y Q r1 r2 k => by
  cases r2
  refine ⟨rfl, ?_⟩
  have e : decide (x = .bl z) = d.isB z := by
    cases r1 with
    | bl c => cases c <;> cases z <;> rfl
    | _ => rfl
  rw [e]; exact k _ _ (Same.refl _) (.bl _)⟩
/-- max(xs, default=d), ints -/
def maxDf (ns : List Int) (d : Int) : Int := match ns with
  | [] => d
  | n :: r => r.foldl max n
def rMaxD (K : PySem.W.Frag) : List V → List V → Hp → VK → Prop := fun vs zs H Q => ∃ (a : Addr) (ns : List Int) (d : Int), vs = [V.ref a] ∧ zs = [V.int d] ∧ SqL K H a (ns.map V.int) ∧ Q (.int (maxDf ns d)) H
theorem alike_ints (ns : List Int) : PySem.W.AlikeAll (ns.map PyData.int) := by
  constructor
  · intro x hx y hy
    obtain ⟨i, _, rfl⟩ := List.mem_map.mp hx
    obtain ⟨j, _, rfl⟩ := List.mem_map.mp hy
    rfl
  · intro x hx
    obtain ⟨i, _, rfl⟩ := List.mem_map.mp hx
    intro h; cases h
theorem depth_ints (ns : List Int) : PyData.depthAll (ns.map PyData.int) = 0 := by
  induction ns with
  | nil => rfl
  | cons n r ih => simp [PyData.depthAll, ih, PyData.depth]
theorem dp_ints {K : PySem.W.Frag} {H : Hp} : ∀ ns : List Int, DpAll K H (ns.map V.int) (ns.map PyData.int)
  | [] => .nil
  | n :: r => .cons (.int n) (dp_ints r)
theorem cr_maxD (hc : X.calm = true) (hu : X.A.units + 1 < cLine) : CallRK X (.builtin "max") [Str.ofString "default"] (rMaxD X.K) := by
  intro pins s σ H vs zs us ws Q I r rz h
  obtain ⟨a, ns, d, rfl, rfl, hs, q⟩ := h
  obtain rfl := Vals.ref1 r
  obtain ⟨w1, rfl, e1⟩ := vals1 rz
  obtain ⟨t, rfl⟩ := (show ∃ t, w1 = Value.int d t from e1)
  obtain ⟨its, rv, hl, _⟩ := I.list hs
  obtain ⟨as, rd⟩ := Dp.readsAll I _ _ _ (dp_ints ns) rv
  refine PySem.W.max_list_default (I.ok.hd hc) hl.isList rd (alike_ints ns) (by rw [depth_ints]; omega) (fun h0 h' tk hk => ?_) (fun y ys i v h' tk bs hy hv hr hk => ?_)
  · have : ns = [] := List.map_eq_nil_iff.mp h0
    subst this
    exact ⟨.int d, H, I.kept hk, ⟨_, rfl⟩, q⟩
  · cases ns with
    | nil => cases hy
    | cons n r' =>
      rw [List.map_cons] at hy
      injection hy with h1 h2
      subst h1 h2
      rw [PySem.W.maxD_ints] at hr
      cases hr
      exact ⟨.int (maxDf (n :: r') d), H, I.kept hk, ⟨_, rfl⟩, q⟩
theorem de_maxD {ns : List Int} {z : Int} (hc : X.calm = true) (hu : X.A.units + 1 < cLine) (hm : X.mg "max" = none) (h : DE X ρ e (.lst (ns.map .int))) (h' : DE X ρ b (.int z)) (hg : Gl X "max" := by rfl)
    (hs : starEach (e :: []) X.env = (false, eval e X.env) :: starEach [] X.env := by rfl)
    (he : backTo pos (starEach (e :: []) X.env) = (false, eval e X.env) :: backTo pos (starEach [] X.env) := by rfl) (hpl : (backTo pos (starEach (e :: []) X.env)).any (·.1) = false := by rfl)
    (hall : (backToKw pos (keywordEach [⟨some "default", b, kpos⟩] X.env)).all (·.1.isSome) = true := by rfl) (hnone : (backToKw pos (keywordEach [⟨some "default", b, kpos⟩] X.env)).any (·.1.isNone) = false := by rfl)
    (hks : (backToKw pos (keywordEach [⟨some "default", b, kpos⟩] X.env)).filterMap (·.1) = [Str.ofString "default"] := by rfl) :
    DE X ρ (.Call (.Name "max" p) [e] [⟨some "default", b, kpos⟩] pos) (.int (maxDf ns z)) := fun B O σ H Q A k =>
  (pe_callBK (cr_maxD hc hu) hg hm (by decide +kernel) pa_sa (pk_cons pe_se pk_nil) (he := he) (hpl := hpl) (hall := hall) (hnone := hnone) (hks := hks)).se
    (da_cons h da_nil hs B O σ H _ A fun vs H1 s1 r1 => by
      obtain ⟨v, rfl, r⟩ := r1.inv1
      refine h' B O σ H1 _ (A.grow s1) fun w H2 s2 r2 => ?_
      cases r with
      | lst hl ha =>
        obtain rfl := ha.ints
        cases r2
        exact ⟨_, _, _, rfl, rfl, s2.seq (hl.imp (rd_mono off_le) id), k _ _ (s1.trans s2) (.int _)⟩)
end
end DL
set_option Elab.async false
set_option linter.all false
set_option maxRecDepth 100000
set_option maxHeartbeats 2000000
/-! DLA: the law's own comparison (_law_same) over data; small sugar. -/
namespace DL
open PySem PySem.Spec PyProof.Rows L2
section
variable {X : Cx} {ρ : List Sl} {a b c : Expr} {s1 s2 sts : List Stmt} {pos p : Pos} {D : DEnds} {xs : List DL.D}
theorem ds_ifT (hc : DT X ρ c true) (h : DSs X ρ s1 D) : DS X ρ (.If c s1 s2 pos) D := ds_if hc (fun _ => h) (fun e => nomatch e)
theorem ds_ifF (hc : DT X ρ c false) (h : DSs X ρ s2 D) : DS X ρ (.If c s1 s2 pos) D := ds_if hc (fun e => nomatch e) (fun _ => h)
/-- a list's length has a bound -/
theorem dss_len (i : Nat) (k : xs.length ≤ sizeLine → DSs X ρ sts D) (hρ : ρ[i]? = some (.dat (.lst xs)) := by rfl) : DSs X ρ sts D := fun B O σ H H0 De W T A s0 C => ⟨fun pins s I => by
  obtain ⟨v, e, r⟩ := A.sl.get hρ
  cases r with
  | lst hs ha =>
    obtain ⟨_, _, _, hz⟩ := I.list (show SqL X.K H _ _ from hs.imp (rd_mono off_le) id)
    exact (k (by rw [← ha.length]; exact hz) B O σ H H0 De W T A s0 C).run pins s I⟩
theorem dss_lenT (i : Nat) (k : xs.length ≤ sizeLine → DSs X ρ sts D) (hρ : ρ[i]? = some (.dat (.tup xs)) := by rfl) : DSs X ρ sts D := fun B O σ H H0 De W T A s0 C => ⟨fun pins s I => by
  obtain ⟨v, e, r⟩ := A.sl.get hρ
  cases r with
  | tup hs ha =>
    obtain ⟨_, _, _, hz⟩ := I.tuple (show SqT X.K H _ _ from hs.imp (rd_mono off_le) id)
    exact (k (by rw [← ha.length]; exact hz) B O σ H H0 De W T A s0 C).run pins s I⟩
theorem dss_lenLT (i : Nat) {d : DL.D} (h : d = .lst xs ∨ d = .tup xs) (k : xs.length ≤ sizeLine → DSs X ρ sts D) (hρ : ρ[i]? = some (.dat d) := by rfl) : DSs X ρ sts D := by
  rcases h with rfl | rfl
  · exact dss_len i k hρ
  · exact dss_lenT i k hρ
end
mutual
def sameD : D → D → Bool
  | g, .non => g.isNon
  | g, .bl b => g.isB b
  | g, .int i => match g with
    | .int j => decide (j = i)
    | _ => false
  | g, .str x => match g with
    | .str y => decide (y = x)
    | _ => false
  | g, .lst ds => match g with
    | .lst gs => sameDs gs ds
    | _ => false
  | g, .tup ds => match g with
    | .tup gs => sameDs gs ds
    | _ => false
  | _, _ => false
def sameDs : List D → List D → Bool
  | gs, [] => gs.isEmpty
  | gs, d :: ds => match gs with
    | [] => false
    | g :: gs => sameD g d && sameDs gs ds
end
mutual
def D.dep : D → Nat
  | .lst ds => D.deps ds + 1
  | .tup ds => D.deps ds + 1
  | _ => 0
def D.deps : List D → Nat
  | [] => 0
  | d :: ds => max d.dep (D.deps ds)
end
def D.tyn : D → String
  | .non => "NoneType"
  | .bl _ => "bool"
  | .int _ => "int"
  | .str _ => "str"
  | .lst _ => "list"
  | .tup _ => "tuple"
  | .dic _ => "dict"
  | _ => ""
theorem D.tyd {d : D} (h : d.ok = true) : TyD d d.tyn := by
  cases d with
  | non => exact .non
  | bl b => exact .bl b
  | int i => exact .int i
  | str s => exact .str s
  | lst x => exact .lst x
  | tup x => exact .tup x
  | _ => simp [D.ok] at h
theorem sameDs_len : ∀ {gs ds : List D}, gs.length ≠ ds.length → sameDs gs ds = false
  | [], [], h => absurd rfl h
  | g :: gs, [], _ => rfl
  | [], d :: ds, _ => rfl
  | g :: gs, d :: ds, h => by
    simp only [sameDs]
    rw [sameDs_len (fun e => h (by simp [e])), Bool.and_false]
theorem sameDs_all : ∀ {gs ds : List D}, gs.length = ds.length → (∀ (k : Nat) g d, gs[k]? = some g → ds[k]? = some d → sameD g d = true) → sameDs gs ds = true
  | [], [], _, _ => rfl
  | [], d :: ds, h, _ => nomatch h
  | g :: gs, [], h, _ => nomatch h
  | g :: gs, d :: ds, h, ha => by
    simp only [sameDs]
    rw [ha 0 g d rfl rfl, sameDs_all (by simpa using h) fun k g' d' h1 h2 => ha (k + 1) g' d' (by simpa using h1) (by simpa using h2)]
    rfl
theorem sameDs_one : ∀ {gs ds : List D} {k : Nat} {g d : D}, gs[k]? = some g → ds[k]? = some d → sameD g d = false → sameDs gs ds = false
  | [], _, k, g, d, h, _, _ => by simp at h
  | _ :: _, [], k, g, d, _, h, _ => by simp at h
  | g0 :: gs, d0 :: ds, 0, g, d, h1, h2, h => by
    simp at h1 h2; subst h1 h2
    simp only [sameDs]; rw [h, Bool.false_and]
  | g0 :: gs, d0 :: ds, k + 1, g, d, h1, h2, h => by
    simp only [sameDs]; rw [sameDs_one (by simpa using h1) (by simpa using h2) h, Bool.and_false]
theorem D.oks_get : ∀ {ds : List D} {k : Nat} {d : D}, D.oks ds = true → ds[k]? = some d → d.ok = true
  | [], k, d, _, h => by simp at h
  | d0 :: ds, 0, d, h, e => by simp at e; subst e; simp [D.oks] at h; exact h.1
  | d0 :: ds, k + 1, d, h, e => by simp [D.oks] at h; exact D.oks_get h.2 (by simpa using e)
theorem D.deps_get : ∀ {ds : List D} {k : Nat} {d : D}, ds[k]? = some d → d.dep ≤ D.deps ds
  | [], k, d, h => by simp at h
  | d0 :: ds, 0, d, e => by simp at e; subst e; simp only [D.deps]; omega
  | d0 :: ds, k + 1, d, e => by have := D.deps_get (ds := ds) (k := k) (d := d) (by simpa using e); simp only [D.deps]; omega
/-- by kind -/
def D.sel (z0 z1 z2 z3 z4 z5 : Bool) : D → Bool
  | .non => z0
  | .bl _ => z1
  | .int _ => z2
  | .str _ => z3
  | .lst _ => z4
  | .tup _ => z5
  | _ => false
theorem kitD {K : PySem.W.Frag} {m : String} {z0 z1 z2 z3 z4 z5 : Bool} {g : D} (h : g.ok = true) (h0 : kitB "NoneType" m = some z0) (h1 : kitB "bool" m = some z1) (h2 : kitB "int" m = some z2) (h3 : kitB "str" m = some z3) (h4 : kitB "list" m = some z4) (h5 : kitB "tuple" m = some z5) :
    PySem.W.kitOne K (.type g.tyn) (.type m) = some (g.sel z0 z1 z2 z3 z4 z5) := by
  cases g with
  | non => exact kit_ty h0
  | bl b => exact kit_ty h1
  | int i => exact kit_ty h2
  | str s => exact kit_ty h3
  | lst x => exact kit_ty h4
  | tup x => exact kit_ty h5
  | _ => simp [D.ok] at h
abbrev D.isInt : D → Bool := D.sel false true true false false false
abbrev D.isBl : D → Bool := D.sel false true false false false false
abbrev D.isStr : D → Bool := D.sel false false false true false false
abbrev D.isLst : D → Bool := D.sel false false false false true false
abbrev D.isTup : D → Bool := D.sel false false false false false true
abbrev D.isDic : D → Bool := D.sel false false false false false false
theorem kit_int {K : PySem.W.Frag} {g : D} (h : g.ok = true) : PySem.W.kitOne K (.type g.tyn) (.type "int") = some g.isInt := kitD h (by decide +kernel) (by decide +kernel) (by decide +kernel) (by decide +kernel) (by decide +kernel) (by decide +kernel)
theorem kit_bool {K : PySem.W.Frag} {g : D} (h : g.ok = true) : PySem.W.kitOne K (.type g.tyn) (.type "bool") = some g.isBl := kitD h (by decide +kernel) (by decide +kernel) (by decide +kernel) (by decide +kernel) (by decide +kernel) (by decide +kernel)
theorem kit_str {K : PySem.W.Frag} {g : D} (h : g.ok = true) : PySem.W.kitOne K (.type g.tyn) (.type "str") = some g.isStr := kitD h (by decide +kernel) (by decide +kernel) (by decide +kernel) (by decide +kernel) (by decide +kernel) (by decide +kernel)
theorem kit_list {K : PySem.W.Frag} {g : D} (h : g.ok = true) : PySem.W.kitOne K (.type g.tyn) (.type "list") = some g.isLst := kitD h (by decide +kernel) (by decide +kernel) (by decide +kernel) (by decide +kernel) (by decide +kernel) (by decide +kernel)
theorem kit_tuple {K : PySem.W.Frag} {g : D} (h : g.ok = true) : PySem.W.kitOne K (.type g.tyn) (.type "tuple") = some g.isTup := kitD h (by decide +kernel) (by decide +kernel) (by decide +kernel) (by decide +kernel) (by decide +kernel) (by decide +kernel)
theorem kit_dict {K : PySem.W.Frag} {g : D} (h : g.ok = true) : PySem.W.kitOne K (.type g.tyn) (.type "dict") = some g.isDic := kitD h (by decide +kernel) (by decide +kernel) (by decide +kernel) (by decide +kernel) (by decide +kernel) (by decide +kernel)
def D.eqI : D → Int → Bool
  | .int j, i => decide (j = i)
  | _, _ => false
def D.eqS : D → Str → Bool
  | .str j, i => decide (j = i)
  | _, _ => false
theorem c_eqDI {X : Cx} {g : D} {i : Int} (hi : g.isInt = true) (hb : g.isBl = false) : CmpD X .Eq g (.int i) (g.eqI i) := by
  cases g with
  | int j => exact c_eq
  | bl b => simp [D.sel] at hb
  | _ => simp [D.sel] at hi
theorem c_eqDS {X : Cx} {g : D} {i : Str} (hi : g.isStr = true) : CmpD X .Eq g (.str i) (g.eqS i) := by
  cases g with
  | str j => exact c_eqS
  | _ => simp [D.sel] at hi
theorem roomU {k : Nat} {A : Around} (hr : Room k A) {n : Nat} (hn : n ≤ 100) : A.units + 1 + n < cLine := by have := hr.un; omega
theorem roomU0 {k : Nat} {A : Around} (hr : Room k A) {n : Nat} (hn : n ≤ 100) : A.units + n < cLine := by have := hr.un; omega
def RSame (n : Nat) (ds : List D) (out : Out) : Prop := ∃ g d, ds = [g, d] ∧ g.ok = true ∧ d.ok = true ∧ d.dep ≤ n ∧ out = .val (.bl (sameD g d))
end DL
set_option Elab.async false
set_option linter.all false
set_option maxRecDepth 100000
set_option maxHeartbeats 2000000
/-! DLB: defs of which only a property of the answer is told. -/
namespace DL
open PySem PySem.Spec PyProof.Rows L2
def spN (K : PySem.W.Frag) (Pre : List D → Prop) (R : List D → Out → Prop) : Sp := fun vs H Q E => ∃ B ds, Al B H ∧ DRs K (off B H) vs ds ∧ Pre ds ∧ ∀ out, R ds out → Out.k K B H Q E out
def endsN (R : Out → Prop) : DEnds := { nx := fun _ => R (.val .non), rt := fun d => R (.val d), rm := fun m => R (.new m) }
theorem outN_cov {K : PySem.W.Frag} {B : List Addr} {H : Hp} {Q : VK} {E : XK} {R : Out → Prop} (hk : ∀ out, R out → Out.k K B H Q E out) : Cov K B H { nx := fun _ H' => Q .non H', rt := Q } (fun _ _ _ _ => False) (endsN R) := by
  refine ⟨fun ρ O σ H' h A q => ?_, fun d' v H' h r q => ?_, fun m p o H' h n e r q => ?_, fun ρ O σ H' h => h.elim, fun ρ O σ H' h => h.elim, fun C fs ρ O σ H' od h => h.elim⟩
  · exact hk _ h _ _ (q.trans off_le) .non
  · exact hk _ h _ _ q r
  · exact hk _ h _ _ _ n q e r
section
variable {P : Program} {w : World} {K : PySem.W.Frag} {mg : Str → Option Value} {base : Heap}
theorem dfnN {x qual : Str} {st : Stmt} {f : Addr} {fd : FuncData} {N ps : List Str} {k : Nat} {Pre : List D → Prop} {R : List D → Out → Prop} (F : Fun K x qual st f fd) (S : FnScope N ps (defScope st)) (len : ∀ ds, Pre ds → ds.length = ps.length)
    (body : ∀ ds, Pre ds → ∀ (cdv : Value) (A : Around) (outer : List Env) (s : Shared) (H : Hp) (E : XK), Room k (A.deeper (envOfC qual (defScope st) s.heap.objs.size f cdv)) →
      DSs (cxOf CX0 P w K mg base N qual (defScope st) f cdv A outer s H E).nox (startS N ds) (defBody st) (endsN (R ds))) : FnOk P w K mg base CX0 (k + 1) f fd ps (spN K Pre R) := by
  refine F.ok S (fun vs H Q E h => ?_) (fun cdv A outer s H vs Q E hr h => ?_)
  · obtain ⟨B, ds, _, r, hP, _⟩ := h
    rw [r.length]; exact len _ hP
  · obtain ⟨B, ds, al, r, hP, hk⟩ := h
    refine ⟨_, pss_ss, ?_⟩
    exact body ds hP cdv A outer s H E hr B [] (L2.start N vs) H H _ (fun _ _ _ _ => False) takes_noneN ⟨slots_start (by rw [List.nil_append]; exact r), al, fun b hb => by cases hb⟩ (by rw [off_nil]; exact Same.refl _)
      (outN_cov hk)
end
variable {X : Cx} {ρ : List Sl} {e : Expr} {es : List Expr} {ds : List D} {d : D} {m : MO} {p pos pos' : Pos} {D' : DEnds}
def DFN (X : Cx) (ρ : List Sl) (e : Expr) (M : MO → Prop) : Prop := ∀ B O σ H Q, At X.K B O σ H ρ → (∀ m, M m → New X.K (O ++ B) H m Q) → SE X e σ H Q
def DEN (X : Cx) (ρ : List Sl) (e : Expr) (M : D → Prop) : Prop := ∀ B O σ H Q, At X.K B O σ H ρ → (∀ d, M d → Yld X.K (O ++ B) H d Q) → SE X e σ H Q
theorem df_callN {CX : CXT} {k : Nat} {f : Addr} {fd : FuncData} {ps : List Str} {Pre : List D → Prop} {R : List D → Out → Prop} {M : MO → Prop} {x : Str} {E : XK} (F : FnOk X.prog X.w X.K X.mg X.base CX k f fd ps (spN X.K Pre R)) (hr : Room k X.A) (hm : X.mg x = some (.ref f)) (hk : PySem.W.keepIn X.K (.ref f) = true)
    (hb : Binds X.K fd ps []) (hx : Passes CX X E) (ha : DA X ρ (e :: es) ds) (hP : Pre ds) (hR : ∀ out, R ds out → ∃ m, out = .new m ∧ M m) (hg : Gl X x := by rfl) (hd : (x == ("__debug__" : Str)) = false := by decide)
    (hs : starEach (e :: es) X.env = (false, eval e X.env) :: starEach es X.env := by rfl) (hpl : (backTo pos (starEach es X.env)).any (·.1) = false := by rfl) : DFN X ρ (.Call (.Name x p) (e :: es) [] pos) M := fun B O σ H Q A kk =>
  (pe_call F hr hg hm hk hb .nil hx pa_sa hd hs hpl).se (ha B O σ H _ A fun vs H1 s1 r1 => by
    rw [List.append_nil]
    exact ⟨O ++ B, ds, A.all.mono s1, r1, hP, fun out h => by obtain ⟨m, rfl, hm⟩ := hR out h; exact (kk m hm).grow s1⟩)
theorem de_callN {CX : CXT} {k : Nat} {f : Addr} {fd : FuncData} {ps : List Str} {Pre : List D → Prop} {R : List D → Out → Prop} {M : D → Prop} {x : Str} {E : XK} (F : FnOk X.prog X.w X.K X.mg X.base CX k f fd ps (spN X.K Pre R)) (hr : Room k X.A) (hm : X.mg x = some (.ref f)) (hk : PySem.W.keepIn X.K (.ref f) = true)
    (hb : Binds X.K fd ps []) (hx : Passes CX X E) (ha : DA X ρ (e :: es) ds) (hP : Pre ds) (hR : ∀ out, R ds out → ∃ d, out = .val d ∧ M d) (hg : Gl X x := by rfl) (hd : (x == ("__debug__" : Str)) = false := by decide)
    (hs : starEach (e :: es) X.env = (false, eval e X.env) :: starEach es X.env := by rfl) (hpl : (backTo pos (starEach es X.env)).any (·.1) = false := by rfl) : DEN X ρ (.Call (.Name x p) (e :: es) [] pos) M := fun B O σ H Q A kk =>
  (pe_call F hr hg hm hk hb .nil hx pa_sa hd hs hpl).se (ha B O σ H _ A fun vs H1 s1 r1 => by
    rw [List.append_nil]
    exact ⟨O ++ B, ds, A.all.mono s1, r1, hP, fun out h => by obtain ⟨m, rfl, hm⟩ := hR out h; exact (kk m hm).grow s1⟩)
theorem ds_ownN (i : Nat) {x : Str} {M : MO → Prop} (hN : X.N.Nodup) (he : DFN X ρ e M) (k : ∀ m, M m → D'.nx (ρ.set i (.own m))) (hlt : i < ρ.length := by first | decide | simp [startS]) (hi : X.N[i]? = some x := by rfl) (hl : Loc X.env.scope x := by first | exact .inl rfl | exact .inr rfl)
    (hs : swapsWith e (some (.Name x pos')) pos.line X.env = pure false := by rfl) (hf : X.fn x = true ∨ X.env.scope.names.lookup x = some .local := by first | exact .inl rfl | exact .inr rfl) : DS X ρ (.Assign [.Name x pos'] e pos) D' := fun B O σ H H0 De W T A s0 C =>
  (ps_set hN hi hl pe_se hs hf).ss (he B O σ H _ A fun m hm p o H1 hn s1 e1 r1 => by
    obtain ⟨O', A', s'⟩ := A.own s0 hn s1 e1 r1 i hlt
    exact C.nx _ O' _ _ (k m hm) A' s')
theorem ds_setN (i : Nat) {x : Str} {M : D → Prop} (hN : X.N.Nodup) (he : DEN X ρ e M) (k : ∀ d, M d → D'.nx (ρ.set i (.dat d))) (hi : X.N[i]? = some x := by rfl) (hl : Loc X.env.scope x := by first | exact .inl rfl | exact .inr rfl)
    (hs : swapsWith e (some (.Name x pos')) pos.line X.env = pure false := by rfl) (hf : X.fn x = true ∨ X.env.scope.names.lookup x = some .local := by first | exact .inl rfl | exact .inr rfl) : DS X ρ (.Assign [.Name x pos'] e pos) D' := fun B O σ H H0 De W T A s0 C =>
  (ps_set hN hi hl pe_se hs hf).ss (he B O σ H _ A fun v hv H1 H2 s1 r1 => by
    obtain ⟨O', hO, hS⟩ := (A.grow s1).sl.set r1 i
    exact C.nx _ O' _ _ (k v hv) ((A.grow s1).sub hO hS) ((keep_grow s0 s1).trans (off_sub hO)))
theorem DRs.eraseIdx {K : PySem.W.Frag} {G : Hp} : ∀ {vs : List V} {ds : List D} (h : DRs K G vs ds) (n : Nat), DRs K G (vs.eraseIdx n) (ds.eraseIdx n)
  | _, _, .nil, n => by simp; exact .nil
  | _, _, .cons r h, 0 => by simpa using h
  | _, _, .cons r h, n + 1 => by simp only [List.eraseIdx_cons_succ]; exact .cons r (DRs.eraseIdx h n)
section
variable {D : DEnds} {apos : Pos}
/-- xs.pop(j) -/
theorem ds_popAt (i : Nat) {x : Str} {cpos : Pos} {n : Nat} {ds : List DL.D} (he : DE X ρ e (.int (n : Int))) (hn : n < ds.length) (hb : n < 2 ^ 62) (k : D.nx (ρ.set i (.own (.lst (ds.eraseIdx n))))) (hρ : ρ[i]? = some (.own (.lst ds)) := by rfl) (hN : X.N[i]? = some x := by rfl)
    (hv : Vis X.env.scope x := by first | exact .inl rfl | exact .inr (.inl rfl) | exact .inr (.inr rfl)) (hd : (x == ("__debug__" : Str)) = false := by decide) (hcd : (x == ("__classdict__" : Str)) = false := by decide)
    (q1 : attributeBase (.Name x p) "pop" X.env (eval (.Name x p) X.env) = eval (.Name x p) X.env := by rfl)
    (q2 : ((((backTo cpos (starEach (e :: []) X.env)).all fun x => !x.1) && (backToKw cpos (keywordEach [] X.env)).all fun x => x.1.isSome) && decide (((e :: []).length + ([] : List Keyword).length + if ([] : List Keyword).isEmpty = true then 0 else 1) < 30)) = true := by rfl)
    (q3 : (apos.endLine == cpos.line) = true := by rfl) (q4 : starEach (e :: []) X.env = (false, eval e X.env) :: starEach [] X.env := by rfl) (q5 : (backTo cpos (starEach [] X.env)).any (·.1) = false := by rfl)
    (hs : swapsWith (.Call (.Attribute (.Name x p) "pop" apos) [e] [] cpos) none pos.line X.env = pure false := by rfl) :
    DS X ρ (.Expr (.Call (.Attribute (.Name x p) "pop" apos) [e] [] cpos) pos) D := fun B O σ H H0 De W T A s0 C => by
  refine (ps_expr (pe_bm (e := e) (es := []) PySem.F.plainAttrs_list PySem.F.slot_list_pop PySem.F.type_list_pop mt_popAt (pe_var hN hv hd hcd) pa_sa q1 q2 q3 q4 q5) hs).ss ?_
  obtain ⟨a, o, e1, e2, e3, e4, q⟩ := A.sl.own_at hρ
  cases e4 with
  | lst ha =>
    refine ⟨_, e1, .inl ⟨rfl, _, SqL.of e3⟩, ?_⟩
    refine da_cons he da_nil q4 B O σ H _ A fun ws H1 s1 r1 => ?_
    obtain ⟨v, rfl, r⟩ := r1.inv1
    cases r
    obtain ⟨y, hy, ry⟩ := (ha.mono (off_same s1)).get n (List.getElem?_eq_getElem hn)
    refine ⟨_, _, (n : Int), n, y, rfl, rfl, s1 _ _ e3, by omega, by omega, ?_, hy, ?_⟩
    · rw [ha.length]
      show seqIndex? (n : Int) ds.length = some n
      unfold seqIndex?
      have h0 : ¬ ((n : Int) < 0) := by omega
      simp [h0, hn]
    obtain ⟨a', o', f1, f2, f3, f4, q'⟩ := (A.grow s1).sl.own_at hρ
    rw [e1] at f1; cases f1
    have hoff : ∀ o, off (O ++ B) (upd H1 a o) = off (O ++ B) H1 := fun o => off_upd_in (List.mem_append_left _ e2)
    refine C.nx _ O _ _ k ⟨by rw [hoff]; exact q' _ _ (.lst ((ha.mono (off_same s1)).eraseIdx n)), fun b hb => ?_, A.dj⟩ ?_
    · rw [upd_ne (show b ≠ a from fun z => A.dj a e2 (z ▸ hb))]; exact A.al.mono s1 b hb
    rw [off_upd_in e2]
    exact keep_grow s0 s1
end
section
variable {a b c : Expr} {da db dc : D}
theorem dt_chain {op op' : CmpOp} {x y : Bool} (c1 : CmpD X op da db x) (c2 : CmpD X op' db dc y) (ha : DE X ρ a da) (hb : DE X ρ b db) (hc : DE X ρ c dc)
    (hm : lastMarks [op, op'] [b, c] = false := by with_unfolding_all rfl) : DT X ρ (.Compare a [op, op'] [b, c] pos) (x && y) := by
  obtain ⟨r, ho, h⟩ := c1.ok
  obtain ⟨r', ho', h'⟩ := c2.ok
  intro B O σ H Q A k
  refine (pt_chain ho ho' pe_se pe_se pe_se hm).st ?_
  refine ha B O σ H _ A fun v1 H1 s1 r1 => hb B O σ H1 _ (A.grow s1) fun v2 H2 s2 r2 => h (O ++ B) _ _ _ _ (r1.mono (off_same s2)) r2 fun v3 H3 s3 r3 => ?_
  cases r3
  refine ⟨_, rfl, ?_⟩
  cases x with
  | false => rw [if_neg Bool.false_ne_true]; exact ⟨_, rfl, k _ (s1.trans (s2.trans s3))⟩
  | true =>
    rw [if_pos rfl]
    refine hc B O σ H3 _ (A.grow (s1.trans (s2.trans s3))) fun v4 H4 s4 r4 => h' (O ++ B) _ _ _ _ (r2.mono (off_same (s3.trans s4))) r4 fun v5 H5 s5 r5 => ?_
    cases r5
    exact ⟨_, rfl, k _ (s1.trans (s2.trans (s3.trans (s4.trans s5))))⟩
end
end DL
set_option Elab.async false
set_option linter.all false
set_option maxRecDepth 100000
set_option maxHeartbeats 4000000
/-! DLC: try whose suites know the exception by its place alone; defs called there. -/
namespace DL
open PySem PySem.Spec PyProof.Rows L2

/-! ### a for over range within a suite -/
section
variable {X : Cx} {ρ : List Sl} {body : List Stmt} {items : List D} {tg : Expr} {D : DEnds}
theorem for_core {wi : TI} (Iv : Nat → List Sl → Prop) {B O : List Addr} {σ : L2.St} {H H0 : Hp} {De : Ends} {W : WX} (T : L2N.Takes X W) (A : At X.K B O σ H ρ) (s0 : Same H0 (off O H)) (C : Cov X.K B H0 De W D)
    (hi : ∀ R : It → Hp → Prop, (∀ J H', Same H H' → JOk X.K (off (O ++ B) H') J items → R J H') → wi σ H R) (h0 : Up (Iv 0) ρ)
    (turn : ∀ (k : Nat) x ρ', items[k]? = some x → Iv k ρ' → ∃ is ρ'', DG X ρ' tg x is ρ'' ∧ DSs X ρ'' body { D with nx := Up (Iv (k + 1)), bk := D.nx, ct := Up (Iv (k + 1)) })
    (done : ∀ ρ', Iv items.length ρ' → D.nx ρ') : tFor wi (SG X tg) (SSs X body) De σ H := by
  refine hi _ fun J H1 s1 j => ?_
  have C1 : Cov X.K B (off O H1) De W D := C.weak (keep_grow s0 s1)
  have inner : ∀ {O' : List Addr} {H' : Hp}, Same (off O H1) (off O' H') → Same (off (O ++ B) H1) (off (O' ++ B) H') := fun {O' H'} q b u e => by
    have hb : b ∉ O ++ B := fun z => by rw [off_in z] at e; cases e
    rw [off_ne hb] at e
    have e' := q b u (by rw [off_ne fun z => hb (List.mem_append_left _ z)]; exact e)
    have hb' : b ∉ O' := fun z => by rw [off_in z] at e'; cases e'
    rw [off_ne hb'] at e'
    rw [off_ne fun z => (List.mem_append.mp z).elim hb' fun z => hb (List.mem_append_right _ z)]
    exact e'
  refine ⟨fun i m σ H => m = items.length - i ∧ i ≤ items.length ∧ ∃ ρ' O', Iv i ρ' ∧ At X.K B O' σ H ρ' ∧ Same (off O H1) (off O' H), (let ⟨ρ', l, h⟩ := h0; ⟨_, rfl, Nat.zero_le _, ρ', O, h, (A.grow s1).le l, Same.refl _⟩), ?_⟩
  rintro i m σ' H' ⟨rfl, hle, ρ', O', hI, A', q⟩
  by_cases hi' : i < items.length
  · obtain ⟨g1, g2⟩ := j.go B O' H' (inner q) A'.all i _ (List.getElem?_eq_getElem hi')
    refine .inr ⟨g1, fun σ'' H'' => ∃ ρ'' O'', Iv (i + 1) ρ'' ∧ At X.K B O'' σ'' H'' ρ'' ∧ Same (off O H1) (off O'' H''), fun σ'' H'' ⟨ρ'', O'', a1, a2, a3⟩ => ⟨_, by omega, rfl, hi', ρ'', O'', a1, a2, a3⟩, fun x H'' hy => ?_⟩
    obtain ⟨s2, r2⟩ := g2 x H'' hy
    obtain ⟨is, ρ2, hg, hb⟩ := turn i _ ρ' (List.getElem?_eq_getElem hi') hI
    refine hg B O' σ' H'' x _ (A'.grow s2) r2 fun σ2 A2 _ => ?_
    refine hb B O' σ2 H'' (off O H1) _ W T A2 (q.trans (off_same s2)) ⟨fun ρ O σ H ⟨ρ', l, h⟩ A q => ⟨ρ', O, h, A.le l, q⟩, C1.rt, C1.rm, fun ρ O σ H h A q => C1.nx ρ O σ H h A q, fun ρ O σ H ⟨ρ', l, h⟩ A q => ⟨ρ', O, h, A.le l, q⟩, C1.ex⟩
  · have e : i = items.length := by omega
    subst e
    exact .inl ⟨j.stop B O' H' (inner q) _ (Nat.le_refl _), C1.nx _ _ _ _ (done _ hI) A' q⟩
theorem ds_range1H (i : Nat) (n : Nat) {x : Str} {a : Expr} {p pos pos' pos'' : Pos} (Iv : Nat → List Sl → Prop) (hN : X.N.Nodup) (hm : X.mg "range" = none) (hxe : PassesOwn (model X.prog X.w) X.A X.env X.xe) (hc : L2H.HotC X) (h : DE X ρ a (.int (n : Int))) (hn : n < 2 ^ 62)
    (h0 : Up (Iv 0) ρ) (turn : ∀ (k : Nat) ρ', k < n → Iv k ρ' → (∀ m, ρ'[i]? ≠ some (.own m)) ∧ DSs X (ρ'.set i (.dat (.int (k : Int)))) body { D with nx := Up (Iv (k + 1)), bk := D.nx, ct := Up (Iv (k + 1)) })
    (done : ∀ ρ', Iv n ρ' → D.nx ρ') (hi : X.N[i]? = some x := by rfl) (hl : Loc X.env.scope x := by first | exact .inl rfl | exact .inr rfl) (hf : X.fn x = true ∨ X.env.scope.names.lookup x = some .local := by first | exact .inl rfl | exact .inr rfl)
    (hg : Gl X "range" := by rfl) (hs : starEach [a] X.env = [(false, eval a X.env)] := by rfl) (hfs : ∀ x, foldedSetIterable (.Call (.Name "range" p) [a] [] pos') X.env x = pure x := by intro _; rfl) :
    DS X ρ (.For (.Name x pos) (.Call (.Name "range" p) [a] [] pos') body [] pos'') D := fun B O σ H H0 De W T A s0 C => by
  have e : ((n : Int)).toNat = n := by omega
  refine (L2H.ps_forH hxe hc (L2H.pi_range1H hg hm pa_sa hs) pg_sg pss_ss hfs).ss (for_core (items := rangeD 0 n) Iv T A s0 C (fun R k => ?_) h0 (fun k y ρ' hy hI => ?_) (fun ρ' hI => done ρ' ?_))
  · refine da_cons h da_nil hs B O σ H _ A fun vs H1 s1 r1 => ?_
    obtain ⟨v, rfl, r⟩ := r1.inv1
    cases r
    exact ⟨_, rfl, by omega, by omega, k _ _ s1 (by rw [e]; exact jok_range)⟩
  · obtain ⟨hk, rfl⟩ := rangeD_get hy
    obtain ⟨h1, h2⟩ := turn k ρ' hk hI
    rw [Int.zero_add]
    exact ⟨_, _, dg_name i hN h1 hi hl hf, h2⟩
  · rw [rangeD_len] at hI; exact hI
end

/-! ### isinstance of the exception that a pin holds -/
def Pin (X : Cx) (C a : Addr) : Prop := ∃ oe : Obj, (a, oe) ∈ X.pn ∧ Zc (.ref C) none oe ∧ ∃ vs, oe.data = .fields vs
theorem call_isP {X : Cx} {a C : Addr} (E : ExcC X.K C) (hp : Pin X C a) : CallR X (.builtin "isinstance") (rIsE X.K C a) := by
  obtain ⟨⟨oc, od, oda, osl⟩, hin, ⟨h1, h2⟩, vs, hv⟩ := hp
  dsimp only at h1 h2 hv
  subst h1 h2 hv
  intro pins s σ H xs us Q I r ⟨c, cv, b, ex, hcv, e, q⟩
  subst ex
  cases r with
  | cons rx rr => cases rr with
    | cons rt rr =>
      cases rr
      cases rx
      obtain rfl := hcv _ rt
      exact PySem.W.kia_one (PySem.W.handS_kitx_exc E.hg E.hk E.hs E.hd E.ha E.hn E.ht E.hm) I.kIn ⟨(I.pin _ (List.mem_append.mpr (.inl hin))).1, rfl, rfl, trivial⟩ e (fun z => nomatch z) fun tk => ⟨.bl b, H, I.kept (t' := tk) fun _ _ z => z, rfl, q⟩
section
variable {X : Cx} {ρ : List Sl} {a b : Expr} {p pos : Pos}
theorem de_isP {C ad : Addr} {cd : D} {cv : Value} {z : Bool} (E : ExcC X.K C) (hp : Pin X C ad) (hm : X.mg "isinstance" = none) (h : DE X ρ a (.opq ad)) (h' : DE X ρ b cd) (hcd : (∃ n, cd = .ty n ∧ cv = .type n) ∨ (∃ E, cd = .opq E ∧ cv = .ref E)) (hk : PySem.W.kitOne X.K (.ref C) cv = some z)
    (hg : Gl X "isinstance" := by rfl)
    (he : starEach (a :: [b]) X.env = (false, eval a X.env) :: starEach [b] X.env := by rfl) (he2 : starEach (b :: []) X.env = (false, eval b X.env) :: starEach [] X.env := by rfl) (hpl : (backTo pos (starEach [b] X.env)).any (·.1) = false := by rfl) :
    DE X ρ (.Call (.Name "isinstance" p) [a, b] [] pos) (.bl z) :=
  de_callB (call_isP E hp) hg hm (by decide +kernel) (da_cons h (da_cons h' da_nil he2) he) (fun Z H vs Q r _ k => by
    obtain ⟨v, w, rfl, r1, r2⟩ := r.inv2
    cases r1
    rcases hcd with ⟨n, rfl, rfl⟩ | ⟨F, rfl, rfl⟩
    · cases r2; exact ⟨_, _, _, rfl, (fun u hu => by cases hu; rfl), hk, k _ _ (Same.refl _) (.bl _)⟩
    · cases r2; exact ⟨_, _, _, rfl, (fun u hu => by cases hu; rfl), hk, k _ _ (Same.refl _) (.bl _)⟩) (he := he) (hpl := hpl)
end

/-! ### defs called within a suite, with the pin told -/
structure FnP (P : Program) (w : World) (K : PySem.W.Frag) (mg : Str → Option Value) (base : Heap) (k : Nat) (f : Addr) (fd : FuncData) (ps : List Str) (sp : Sp) (p : Addr × Obj) : Prop where
  len : ∀ vs H Q E, sp vs H Q E → vs.length = ps.length
  run : ∀ (A : Around) (outer : List Env) (s : Shared) (H : Hp) (us : List Value) (vs : List V) (Q : VK) (E : XK), L2H.RoomH k A → L2H.Hot1 A p → L2H.PinOk outer H s p → Env0 P w K mg base A outer s H → BindsTo s fd ⟨us, []⟩ (ps.zip us) → Vals vs us → sp vs H Q E →
    codeAny (model P w) A (.call (.ref f) ⟨us, []⟩) (CR CX0 outer P w H s Q E) s
section
variable {P : Program} {w : World} {K : PySem.W.Frag} {mg : Str → Option Value} {base : Heap}
theorem fnP {x qual : Str} {st : Stmt} {f : Addr} {fd : FuncData} {N ps : List Str} {k : Nat} {R : List D → Out → Prop} {p : Addr × Obj} (F : Fun K x qual st f fd) (S : FnScope N ps (defScope st)) (len : ∀ ds out, R ds out → ds.length = ps.length ∧ ∀ C fs, out ≠ .exc C fs)
    (body : ∀ ds out, R ds out → ∀ (cdv : Value) (A : Around) (outer : List Env) (s : Shared) (H : Hp) (E : XK), L2H.Hot1 A p →
      DSs (L2H.cxH CX0 P w K mg base N qual (defScope st) f cdv A outer s H E p) (startS N ds) (defBody st) out.ends) : FnP P w K mg base (k + 1) f fd ps (spD K R) p := by
  obtain ⟨oc, od, kV, doc, pm, an, cdv, ct, osl, rfl, lk, hcd⟩ := F.ex
  refine ⟨fun vs H Q E h => ?_, fun A outer s H us vs Q E hr hot hpin e0 hb r h => ?_⟩
  · obtain ⟨B, ds, out, _, r, hR, _⟩ := h
    rw [r.length]; exact (len _ _ hR).1
  obtain ⟨B, ds, out, al, dr, hR, hk⟩ := h
  have hl : vs.length = ps.length := by rw [dr.length]; exact (len _ _ hR).1
  have old : ∀ b o, base.get? b = some o → s.heap.get? b = some o := fun b o e => (e0.bs b o e).1
  have kinds : ∀ y ∈ ps.zip us, (defScope st).names.lookup y.1 = some .local ∨ ((defScope st).names.lookup y.1 = some .cell ∧ ((cellsFrom (s.heap.objs.size + 1) (defScope st).names []).lookup y.1).isSome = true) := fun y hy =>
    (S.par y.1 (List.of_mem_zip (a := y.1) (b := y.2) hy).1).imp id fun q => ⟨q, PySem.W.cellsFrom_some _ _ _ (.inl q)⟩
  refine codeAny_call_function hr.depth ((e0.mod.kin.keeps old) _ _ lk) rfl S.co S.gen rfl (PySem.W.codeRec_of (e0.mod.kin.keeps old) hcd) (hb _ _ _ _ (wpAny_newFunctionEnv_cells S.kind kinds fun env he s1 x => ?_))
  subst he
  refine ⟨(e0.mod.nolimit.keeps old).keeps x.toInCall.keep, codeAny_func ?_⟩
  have I := L2H.inv_startH (CX := CX0) (cd := cdv) (E := E) S hpin e0 hl r x
  refine wpAny_mono ((pss_ss.run [] s1 (L2.start N vs) H { nx := fun _ H' => Q .non H', rt := Q } I
    (body ds out hR cdv A outer s H E hot B [] (L2.start N vs) H H _ (fun _ _ _ _ => False) takes_noneN ⟨slots_start (by rw [List.nil_append]; exact dr), al, fun b hb => by cases hb⟩ (by rw [off_nil]; exact Same.refl _)
      (out_cov hk fun C fs e => absurd e ((len _ _ hR).2 C fs))))) (fun fl s' hs => ?_) fun e s' hs => hs
  cases fl with
  | ret u =>
    obtain ⟨v, σ', H', J, rv, q⟩ := hs
    exact ⟨v, H', J.os, J.bare, J.base, J.hok, rv, q⟩
  | next =>
    obtain ⟨σ', H', J, q⟩ := hs
    exact ⟨.non, H', J.os, J.bare, J.base, J.hok, rfl, q⟩
  | brk => obtain ⟨_, _, _, q⟩ := hs; exact q.elim
  | cont => obtain ⟨_, _, _, q⟩ := hs; exact q.elim
end
section
variable {X : Cx} {ρ : List Sl} {e : Expr} {es : List Expr} {ds : List D} {d : D} {q pos : Pos}
/-- a call of such a def -/
theorem de_callP {k : Nat} {f : Addr} {fd : FuncData} {ps : List Str} {R : List D → Out → Prop} {x : Str} {p : Addr × Obj} (F : FnP X.prog X.w X.K X.mg X.base k f fd ps (spD X.K R) p) (hr : L2H.RoomH k X.A) (hot : L2H.Hot1 X.A p) (hp : p ∈ X.pn) (hm : X.mg x = some (.ref f)) (hk : PySem.W.keepIn X.K (.ref f) = true)
    (hb : Binds X.K fd ps []) (ha : DA X ρ (e :: es) ds) (hR : R ds (.val d)) (hg : Gl X x := by rfl) (hd : (x == ("__debug__" : Str)) = false := by decide)
    (hs : starEach (e :: es) X.env = (false, eval e X.env) :: starEach es X.env := by rfl) (hpl : (backTo pos (starEach es X.env)).any (·.1) = false := by rfl) : DE X ρ (.Call (.Name x q) (e :: es) [] pos) d := by
  intro B O σ H Q A kk
  refine ⟨fun pins s I => ?_⟩
  refine wpAny_Call_Name_kw (ld_glob I hg hm ?_ hd)
  refine PySem.W.callWith_K (h₀ := X.base) I.ok.mod.kin hk (thn ((pa_sa (X := X) (es := e :: es)).run pos pins s σ H _ I (ha B O σ H _ A fun vs H1 s1 r1 => (show spD X.K R vs H1 Q (fun _ _ _ => False) from ⟨O ++ B, ds, .val d, A.all.mono s1, r1, hR, kk.grow s1⟩))) fun us s1 ⟨vs, H1, I1, r, h⟩ => ⟨I1.kIn, ?_⟩) hs hpl
  have b := hb s1 us I1.kIn (by rw [List.append_nil, ← r.length]; exact F.len _ _ _ _ h)
  rw [List.append_nil] at b
  have P1 := I1.pin p (List.mem_append_left _ hp)
  refine wpAny_call (codeAny_mono (F.run X.A X.stack s1 H1 us vs Q (fun _ _ _ => False) hr hot ⟨P1.1, P1.2.1, fun hm => (List.mem_cons.mp (I1.stkSub p.1 hm)).elim P1.2.2.1 P1.2.2.2.1, P1.2.2.2.2⟩ I1.env0 b r h) fun r s' hq => ?_)
  cases r with
  | error e => exact False.elim hq
  | ok fl =>
    cases fl with
    | ret u => exact I1.after hq
    | next => exact hq.elim
    | brk => exact hq.elim
    | cont => exact hq.elim
end
end DL
set_option Elab.async false
set_option linter.all false
set_option maxRecDepth 100000
set_option maxHeartbeats 4000000
/-! DLD: try, the exception known by its place (printed by mk_DLD.py out of DL6). -/
namespace DL
open PySem PySem.Spec PyProof.Rows L2
/-- what the clauses wish of an exception -/
def wP (K : PySem.W.Frag) (Wout : WX) (D : Ends) : List (Value × (Addr → Value → Option Addr → TS)) → WX
  | [] => Wout
  | (c, ts) :: r => fun cls d σ H => ∃ b, PySem.W.exmOne K cls c = some b ∧ (b = true → ∀ a, H a = none → ts a cls d D σ H) ∧ (b = false → wP K Wout D r cls d σ H)
inductive HdsP (X : Cx) : List ExceptHandler → List (Value × (Addr → Value → Option Addr → TS)) → Prop
  | nil : HdsP X [] []
  | one {x : Str} {c : Value} {ts : Addr → Value → Option Addr → TS} {b₀ : Stmt} {suite : List Stmt} {np pos' : Pos} {hds : List ExceptHandler} {l : List (Value × (Addr → Value → Option Addr → TS))} (hc : Names X x c)
      (hsu : ∀ (a : Addr) (oe : Obj) (cls : Value) (d : Option Addr) (pn : List (Addr × Obj)), L2N.Zn cls d oe → (∃ vs, oe.data = .fields vs) → PSs (X.suite a ((a, oe) :: pn)) (b₀ :: suite) (ts a cls d)) (r : HdsP X hds l) : HdsP X (.ExceptHandler (some (.Name x np)) none (b₀ :: suite) pos' :: hds) ((c, ts) :: l)
  | as {x n : Str} {i : Nat} {c : Value} {ts : Addr → Value → Option Addr → TS} {b₀ : Stmt} {suite : List Stmt} {np pos' : Pos} {hds : List ExceptHandler} {l : List (Value × (Addr → Value → Option Addr → TS))} (hi : X.N[i]? = some n) (hln : X.env.kindOf n = some .local) (hc : Names X x c)
      (hsu : ∀ (a : Addr) (oe : Obj) (cls : Value) (d : Option Addr) (pn : List (Addr × Obj)), L2N.Zn cls d oe → (∃ vs, oe.data = .fields vs) → PSs (X.suite a ((a, oe) :: pn)) (b₀ :: suite) (ts a cls d)) (r : HdsP X hds l) : HdsP X (.ExceptHandler (some (.Name x np)) (some n) (b₀ :: suite) pos' :: hds) ((c, fun a cls d D σ H => ts a cls d (asEnds i D) (σ.set i (some (.ref a))) H) :: l)
section
variable {X : Cx} {body : List Stmt} {h₀ : ExceptHandler} {hds : List ExceptHandler} {l : List (Value × (Addr → Value → Option Addr → TS))} {pos : Pos} {tb : WX → TS} {Wout : WX}
theorem ps_tryP (hs : X.stack = X.env :: X.outer) (hf : X.env.frame = some X.env.locals) (hN : X.N.Nodup) (hex : X.ex = []) (tk : L2N.Takes X Wout)
    (hb : ∀ (W : WX) (pn : List (Addr × Obj)) (xe : Value → Shared → Prop), L2N.Takes (X.tr pn xe) W → PassesOwn (model X.prog X.w) X.A X.env xe → PSs (X.tr pn xe) body (tb W))
    (hh : HdsP X (h₀ :: hds) l) : PS X (.Try body (h₀ :: hds) [] [] pos) (fun D σ H => tb (wP X.K Wout D l) D σ H) := by
  refine ⟨fun pins s σ H D I h => ?_⟩
  have ok := I.ok
  have hfr : X.A.frames = some (X.env :: X.outer) := by rw [ok.frames, hs]
  refine wpAny_Try_except ?_
  refine wpAny_mono ((hb (wP X.K Wout D l) (X.pn ++ pins) (fun e s₁ => wpAny (model X.prog X.w) X.A (noteFrame e X.env) (fun _ s₂ => wpAny (model X.prog X.w) X.A (setFlight e none) (fun _ s₃ =>
    wpAny (model X.prog X.w) X.A (handleBy e X.env (h₀ :: hds)) (SP X pins D) X.xe s₃) X.xe s₂) X.xe s₁) (fun u s' xx => ?_) PassesOwn.looking).run [] s σ H D (I.toTry _) h) (fun f s1 hsp => ?_) (fun e s1 he => he)
  · obtain ⟨a, B, sI, pins', σ', H', cls, d, rfl, J', nb, up, sky, na, os, ag, w⟩ := xx
    have J : Inv X pins σ' H' sI := J'.ofTry ok
    have sky' : Sky B (X.env :: X.outer) a (L2N.Zn cls d) X.env.locals s'.heap := by rw [← hs]; exact sky
    show wpAny (model X.prog X.w) X.A (noteFrame (.ref a) X.env) _ _ _
    refine L2N.Sky.land L2N.Zn.steady hfr hf sky' fun h3 fl3 up3 => ?_
    have J3 : Inv X pins σ' H' { s' with heap := h3 } := J.landed nb fl3.1 (up.trans up3) os ag
    obtain ⟨oe3, vs3, he3, hz3, hd3⟩ := fl3.there
    have notFr : ∀ {h : Heap} {o : Obj} {vs : Array Value}, h.FunFrames B (X.env :: X.outer) → h.get? a = some o → o.data = .fields vs → a ∉ frs (X.env :: X.outer) := fun {h o vs} ff e dd hm => by
      obtain ⟨_, o', e', hnf⟩ := ff.mem hm
      rw [e] at e'; cases e'
      exact hnf _ dd
    have nfr := notFr fl3.2.2.1 he3 hd3
    have nL : a ≠ X.env.locals := fun z => nfr (List.mem_filterMap.mpr ⟨X.env, List.mem_cons_self, by rw [hf, z]⟩)
    have nF : a ∉ X.fs := fun hm => by
      obtain ⟨e, he, q⟩ := List.mem_filterMap.mp hm
      exact nfr (List.mem_filterMap.mpr ⟨e, List.mem_cons_of_mem _ he, q⟩)
    have hpn := pnOk_of J nb fl3.2.1
    have h0 : X.s_0.heap.get? a = none := by
      cases q : X.s_0.heap.get? a with
      | none => rfl
      | some o =>
        obtain ⟨o', e1⟩ := J.base.there a o q (by rw [hex]; intro z; cases z)
        have := nb a o' e1 (by rw [hs]; exact nfr)
        rw [fl3.2.1] at this; cases this
    have S3 := J3.suite he3 hd3 na nL nF
    have go : ∀ {hds' : List ExceptHandler} {l' : List (Value × (Addr → Value → Option Addr → TS))}, HdsP X hds' l' → wP X.K Wout D l' cls d σ' H' →
        wpAny (model X.prog X.w) X.A (handleBy (.ref a) X.env hds') (SP X pins D) X.xe { s' with heap := h3 } := by
      intro hds' l' hk
      induction hk with
      | nil =>
        intro w
        refine wpAny_handleBy_nil ?_
        obtain ⟨k1, k2, k3, oe, vs, T, oT, ts', he, hz, hd, h1, hr⟩ := id fl3
        unfold PySem.passOn
        refine wpAny_bind (wpAny_field he hd h1 ?_)
        rw [if_neg (show ¬ ((Value.ref T == Value.none) = true) from by simp)]
        have fin : wpAny (model X.prog X.w) X.A (setFlight (.ref a) X.env.frame) (fun _ s4 => wpAny (model X.prog X.w) X.A (throw (.ref a) : Sem Flow) (SP X pins D) X.xe s4) X.xe { s' with heap := h3 } := by
          rw [hf]
          refine HandSPX.setFlight_upZ fl3 fun h4 hh4 up4 => wpAny_throw (tk _ _ ?_)
          exact ⟨a, B, sI, pins, σ', H', cls, d, rfl, J, nb, (up.trans up3).trans up4, .inr (.inr (by rw [hs]; exact hh4)), na, os, ag, w⟩
        first
          | exact wpAny_bind (wpAny_pure (wpAny_bind fin))
          | exact wpAny_bind fin
      | @one x c ts b₀ suite np pos' hds2 l2 hc hsu r ih =>
        intro w
        obtain ⟨b, hb1, hyes, hno⟩ := w
        refine wpAny_handleBy_cons (codeAny_handlers_test ?_) (by intro q; cases q)
        have LT : PySem.W.Looks (model X.prog X.w) h3 (typeOf (.ref a)) cls := fun A Q E s k q => wpAny_typeOf_ref (k _ _ he3) (by rw [hz3.1]; exact q)
        have LM := PySem.W.exm_one (M := model X.prog X.w) (J3.kIn) LT hb1
        have test : ∀ {Q : Value → Shared → Prop} {E : Value → Shared → Prop}, Q c { s' with heap := h3 } → wpAny (model X.prog X.w) (X.A.mark (some (.ref a))) (eval (.Name x np) X.env) Q E { s' with heap := h3 } := fun {Q E} q => by
          obtain ⟨hg, hdbg, hm | ⟨hm, hv, hnn⟩⟩ := hc
          · exact ld_glob (X := X.suite a ((a, oe3) :: (X.pn ++ pins))) S3 hg hm q hdbg
          · exact ld_blt (X := X.suite a ((a, oe3) :: (X.pn ++ pins))) S3 hg hm hv q hnn hdbg
        refine test (LM.here ?_)
        cases b with
        | true =>
          refine codeAny_handlers_suite ?_
          refine HandSPX.lands_againZ fl3 fun h4 fl4 up4 => ?_
          have J4 : Inv X pins σ' H' { s' with heap := h4 } := J.landed nb fl4.1 ((up.trans up3).trans up4) os ag
          obtain ⟨oe4, vs4, he4, hz4, hd4⟩ := fl4.there
          have S4 := J4.suite he4 hd4 na nL nF
          refine wpAny_mono ((hsu a oe4 cls d (X.pn ++ pins) hz4 ⟨_, hd4⟩).run [] _ _ H' _ S4 (hyes rfl a na)) (fun f s6 hsp => ?_) (fun _ _ z => False.elim z)
          cases f with
          | next =>
            obtain ⟨σ6, H6, S6, q6⟩ := hsp
            exact ⟨_, _, S6.unsuite ok, q6⟩
          | brk =>
            obtain ⟨σ6, H6, S6, q6⟩ := hsp
            exact ⟨_, _, S6.unsuite ok, q6⟩
          | cont =>
            obtain ⟨σ6, H6, S6, q6⟩ := hsp
            exact ⟨_, _, S6.unsuite ok, q6⟩
          | ret u =>
            obtain ⟨v6, σ6, H6, S6, r6, q6⟩ := hsp
            exact ⟨_, _, _, S6.unsuite ok, r6, q6⟩
        | false =>
          show wpAny _ X.A (handleBy (.ref a) X.env hds2) _ _ _
          exact ih (hno rfl)
      | @as x n i c ts b₀ suite np pos' hds2 l2 hi hln hc hsu r ih =>
        intro w
        obtain ⟨b, hb1, hyes, hno⟩ := w
        have hloc : Loc X.env.scope n := .inl hln
        refine wpAny_handleBy_cons (codeAny_handlers_test ?_) (by intro q; cases q)
        have LT : PySem.W.Looks (model X.prog X.w) h3 (typeOf (.ref a)) cls := fun A Q E s k q => wpAny_typeOf_ref (k _ _ he3) (by rw [hz3.1]; exact q)
        have LM := PySem.W.exm_one (M := model X.prog X.w) (J3.kIn) LT hb1
        have test : ∀ {Q : Value → Shared → Prop} {E : Value → Shared → Prop}, Q c { s' with heap := h3 } → wpAny (model X.prog X.w) (X.A.mark (some (.ref a))) (eval (.Name x np) X.env) Q E { s' with heap := h3 } := fun {Q E} q => by
          obtain ⟨hg, hdbg, hm | ⟨hm, hv, hnn⟩⟩ := hc
          · exact ld_glob (X := X.suite a ((a, oe3) :: (X.pn ++ pins))) S3 hg hm q hdbg
          · exact ld_blt (X := X.suite a ((a, oe3) :: (X.pn ++ pins))) S3 hg hm hv q hnn hdbg
        refine test (LM.here ?_)
        cases b with
        | true =>
          refine codeAny_handlers_suite_as ?_
          refine HandSPX.lands_againZ fl3 fun h4 fl4 up4 => ?_
          have J4 : Inv X pins σ' H' { s' with heap := h4 } := J.landed nb fl4.1 ((up.trans up3).trans up4) os ag
          obtain ⟨oe4, vs4, he4, hz4, hd4⟩ := fl4.there
          have S4 := J4.suite he4 hd4 na nL nF
          refine store_ok (X := X.suite a ((a, oe4) :: (X.pn ++ pins))) (v := .ref a) S4 hN hi hloc rfl (fun s5 S5 => ?_) (.inr hln)
          refine wpAny_mono ((hsu a oe4 cls d (X.pn ++ pins) hz4 ⟨_, hd4⟩).run [] s5 _ H' _ S5 (hyes rfl a na)) (fun f s6 hsp => ?_) (fun _ _ z => False.elim z)
          have end_ : ∀ {σ6 : L2.St} {H6 : Hp} {Q : Shared → Prop}, Inv (X.suite a ((a, oe4) :: (X.pn ++ pins))) [] σ6 H6 s6 → (∀ s7, Inv X pins (σ6.set i none) H6 s7 → Q s7) →
              wpAny (model X.prog X.w) X.A (do bindName X.env n .none; unbindBehindTheSuite X.env n pos') (fun _ s7 => Q s7) X.xe s6 := fun {σ6 H6 Q} S6 hq => gone_ok (S6.unsuite ok) hN hi hln hq
          cases f with
          | next =>
            obtain ⟨σ6, H6, S6, q6⟩ := hsp
            exact end_ S6 fun s7 J7 => ⟨_, _, J7, q6⟩
          | brk =>
            obtain ⟨σ6, H6, S6, q6⟩ := hsp
            exact end_ S6 fun s7 J7 => ⟨_, _, J7, q6⟩
          | cont =>
            obtain ⟨σ6, H6, S6, q6⟩ := hsp
            exact end_ S6 fun s7 J7 => ⟨_, _, J7, q6⟩
          | ret u =>
            obtain ⟨v6, σ6, H6, S6, r6, q6⟩ := hsp
            exact end_ S6 fun s7 J7 => ⟨_, _, _, J7, r6, q6⟩
        | false =>
          show wpAny _ X.A (handleBy (.ref a) X.env hds2) _ _ _
          exact ih (hno rfl)
    exact go hh w
  · cases f with
    | next =>
      obtain ⟨σ', H', J', q⟩ := hsp
      exact wpAny_execs_nil ⟨σ', H', J'.ofTry ok, q⟩
    | brk =>
      obtain ⟨σ', H', J', q⟩ := hsp
      exact ⟨σ', H', J'.ofTry ok, q⟩
    | cont =>
      obtain ⟨σ', H', J', q⟩ := hsp
      exact ⟨σ', H', J'.ofTry ok, q⟩
    | ret u =>
      obtain ⟨v, σ', H', J', r, q⟩ := hsp
      exact ⟨v, σ', H', J'.ofTry ok, r, q⟩
end
/-- what is known of the exception in a suite -/
def Held (X : Cx) (C a : Addr) (fs : Option (List (Str × D))) : Prop := ∃ (oe : Obj) (od : Option Addr), (a, oe) ∈ X.pn ∧ L2N.Zn (.ref C) od oe ∧ (fs = none → od = none) ∧ (∃ vs, oe.data = .fields vs) ∧ L2H.Hot1 X.A (a, oe)
def HDP (X : Cx) (D : DEnds) : List (Value × Option Nat × List Stmt) → Addr → Option (List (Str × DL.D)) → List Sl → Prop
  | [] => D.ex
  | (c, none, su) :: l => fun C fs ρ => ∃ b, PySem.W.exmOne X.K (.ref C) c = some b ∧ (b = true → ∀ a pn, Held (X.suite a pn) C a fs → DSs (X.suite a pn) ρ su D.noex) ∧ (b = false → HDP X D l C fs ρ)
  | (c, some i, su) :: l => fun C fs ρ => ∃ b, PySem.W.exmOne X.K (.ref C) c = some b ∧ (b = true → ∀ a pn, Held (X.suite a pn) C a fs → DSs (X.suite a pn) (ρ.set i (.dat (.opq a))) su (D.as i)) ∧ (b = false → HDP X D l C fs ρ)
section
variable {X : Cx} {ρ : List Sl} {body : List Stmt} {h₀ : ExceptHandler} {hds : List ExceptHandler} {l : List (Value × Option Nat × List Stmt)} {pos : Pos} {D : DEnds}
def rdP (X : Cx) : List (Value × Option Nat × List Stmt) → List (Value × (Addr → Value → Option Addr → TS))
  | [] => []
  | (c, none, su) :: l => (c, fun a cls d De σ H => ∀ oe pn, L2N.Zn cls d oe → (∃ vs, oe.data = .fields vs) → SSs (X.suite a ((a, oe) :: pn)) su De σ H) :: rdP X l
  | (c, some i, su) :: l => (c, fun a cls d De σ H => ∀ oe pn, L2N.Zn cls d oe → (∃ vs, oe.data = .fields vs) → SSs (X.suite a ((a, oe) :: pn)) su (asEnds i De) (σ.set i (some (.ref a))) H) :: rdP X l
theorem HS.hdsP (h : HS X hds l) : HdsP X hds (rdP X l) := by
  induction h with
  | nil => exact .nil
  | one hc _ ih => exact .one hc (fun a oe cls d pn hz hf => ⟨fun pins s σ H D I h => (h oe pn hz hf).run pins s I⟩) ih
  | @as x n i c b₀ suite np pos' hds l hi hln hc _ ih => exact .as (ts := fun a cls d De σ H => ∀ oe pn, L2N.Zn cls d oe → (∃ vs, oe.data = .fields vs) → SSs (X.suite a ((a, oe) :: pn)) (b₀ :: suite) De σ H) hi hln hc (fun a oe cls d pn hz hf => ⟨fun pins s σ H D I h => (h oe pn hz hf).run pins s I⟩) ih
theorem ds_tryP (hs : X.stack = X.env :: X.outer) (hf : X.env.frame = some X.env.locals) (hN : X.N.Nodup) (hex : X.ex = []) (hh : HS X (h₀ :: hds) l)
    (hb : ∀ pn xe, PassesOwn (model X.prog X.w) X.A X.env xe → DSs (X.tr pn xe) ρ body { D with ex := HDP X D l }) : DS X ρ (.Try body (h₀ :: hds) [] [] pos) D := fun B O σ H H0 De W T A s0 Cv => by
  refine (ps_tryP (tb := fun W' De σ H => ∀ pn xe, L2N.Takes (X.tr pn xe) W' → PassesOwn (model X.prog X.w) X.A X.env xe → SSs (X.tr pn xe) body De σ H) hs hf hN hex T (fun W' pn xe T' P => ⟨fun pins s σ H D I h => (h pn xe T' P).run pins s I⟩) hh.hdsP).ss ?_
  intro pn xe T' P
  refine hb pn xe P B O σ H H0 De _ T' A s0 ⟨Cv.nx, Cv.rt, Cv.rm, Cv.bk, Cv.ct, fun C fs ρ' O' σ' H' od hD A' s' r => ?_⟩
  have hn : fs = none → od = none := fun e => by cases r with
    | none => rfl
    | some _ _ => cases e
  have go : ∀ l, HDP X D l C fs ρ' → wP X.K W De (rdP X l) (.ref C) od σ' H' := by
    intro l
    induction l with
    | nil => exact fun hD => Cv.ex _ _ _ _ _ _ _ hD A' s' r
    | cons q l ih =>
      obtain ⟨c, o, su⟩ := q
      cases o with
      | none =>
        rintro ⟨b, e, h1, h2⟩
        refine ⟨b, e, fun hb a na oe pn hz hv => ?_, fun hb => ih (h2 hb)⟩
        exact h1 hb a ((a, oe) :: pn) ⟨oe, od, List.mem_cons_self, hz, hn, hv, rfl, hv.imp fun vs e => ⟨e, hz.2.2 vs e⟩⟩ B O' σ' _ H0 De (fun _ _ _ _ => False) takes_noneN A' s' ⟨Cv.nx, Cv.rt, Cv.rm, Cv.bk, Cv.ct, fun C fs ρ O σ H od h => h.elim⟩
      | some i =>
        rintro ⟨b, e, h1, h2⟩
        refine ⟨b, e, fun hb a na oe pn hz hv => ?_, fun hb => ih (h2 hb)⟩
        obtain ⟨O2, hO, hS⟩ := A'.sl.set (DR.opq (K := X.K) (H := off (O' ++ B) H') a) i
        refine h1 hb a ((a, oe) :: pn) ⟨oe, od, List.mem_cons_self, hz, hn, hv, rfl, hv.imp fun vs e => ⟨e, hz.2.2 vs e⟩⟩ B O2 _ _ H0 (asEnds i De) (fun _ _ _ _ => False) takes_noneN (A'.sub hO hS) (s'.trans (off_sub hO)) ⟨fun ρ O σ H h A q => ?_, Cv.rt, Cv.rm, fun ρ O σ H h A q => ?_, fun ρ O σ H h A q => ?_, fun C fs ρ O σ H od h => h.elim⟩
        · obtain ⟨O3, h3, S3⟩ := A.sl.clrO i
          exact Cv.nx _ O3 _ _ h (A.sub h3 S3) (q.trans (off_sub h3))
        · obtain ⟨O3, h3, S3⟩ := A.sl.clrO i
          exact Cv.bk _ O3 _ _ h (A.sub h3 S3) (q.trans (off_sub h3))
        · obtain ⟨O3, h3, S3⟩ := A.sl.clrO i
          exact Cv.ct _ O3 _ _ h (A.sub h3 S3) (q.trans (off_sub h3))
  exact go l hD
end
end DL
set_option Elab.async false
set_option linter.all false
set_option maxRecDepth 100000
set_option maxHeartbeats 2000000
/-! DLE: an owned list lent to an expression whose answer holds no list; rows equal to themselves. -/
namespace DL
open PySem PySem.Spec PyProof.Rows L2
/-- scalars, tuples of scalars -/
def D.flt : D → Bool
  | .tup xs => xs.all D.scal
  | d => d.scal
theorem DRs.scal {K : PySem.W.Frag} {G G' : Hp} : ∀ {vs : List V} {ds : List D}, DRs K G vs ds → ds.all D.scal = true → DRs K G' vs ds
  | _, _, .nil, _ => .nil
  | _, _, .cons r h, e => by
    simp only [List.all_cons, Bool.and_eq_true] at e
    exact .cons (DR.scal r e.1) (DRs.scal h e.2)
theorem Slots.freezeL {K : PySem.W.Frag} {H G : Hp} {σ : L2.St} {ρ : List Sl} {O : List Addr} (h : Slots K H G σ ρ O) : ∀ {i : Nat} {xs : List D}, ρ[i]? = some (.own (.lst xs)) → ∃ a O', a ∈ O ∧ a ∉ O' ∧ (∃ vs, H a = some (.lst vs)) ∧ (∀ b, b ∈ O → b = a ∨ b ∈ O') ∧ (∀ b ∈ O', b ∈ O) ∧
    ∀ G', Same G G' → G' a = H a → Slots K H G' σ (ρ.set i (.dat (.lst xs))) O' := by
  induction h with
  | nil => intro i m e; simp at e
  | emp h ih =>
    intro i m e
    cases i with
    | zero => simp at e
    | succ i =>
      obtain ⟨a, O', h1, h2, hl, h3, h4, k⟩ := ih (by simpa using e)
      exact ⟨a, O', h1, h2, hl, h3, h4, fun G' s q => .emp (k G' s q)⟩
  | dat r h ih =>
    intro i m e
    cases i with
    | zero => simp at e
    | succ i =>
      obtain ⟨a, O', h1, h2, hl, h3, h4, k⟩ := ih (by simpa using e)
      exact ⟨a, O', h1, h2, hl, h3, h4, fun G' s q => .dat (r.mono s) (k G' s q)⟩
  | own e0 r n h ih =>
    intro i m e
    cases i with
    | zero =>
      simp at e; subst e
      refine ⟨_, _, List.mem_cons_self, n, ?_, fun b hb => List.mem_cons.mp hb, fun b hb => List.mem_cons_of_mem _ hb, fun G' s q => ?_⟩
      · cases r with
        | lst _ => exact ⟨_, e0⟩
      · exact .dat ((r.mono s).dr (q.trans e0)) (h.mono (fun _ _ _ z => z) s)
    | succ i =>
      obtain ⟨a, O', h1, h2, hl, h3, h4, k⟩ := ih (by simpa using e)
      refine ⟨a, _ :: O', List.mem_cons_of_mem _ h1, ?_, hl, ?_, ?_, fun G' s q => .own e0 (r.mono s) (fun z => n (h4 _ z)) (k G' s q)⟩
      · intro z
        rcases List.mem_cons.mp z with z | z
        · subst z; exact n h1
        · exact h2 z
      · intro b hb
        rcases List.mem_cons.mp hb with rfl | hb
        · exact .inr List.mem_cons_self
        · exact (h3 b hb).imp id (List.mem_cons_of_mem _)
      · intro b hb
        rcases List.mem_cons.mp hb with rfl | hb
        · exact List.mem_cons_self
        · exact List.mem_cons_of_mem _ (h4 b hb)
section
variable {X : Cx} {ρ : List Sl} {e : Expr} {d : D} {xs : List D}
theorem de_lend (i : Nat) (h : DE X (ρ.set i (.dat (.lst xs))) e d) (hd : d.flt = true) (hρ : ρ[i]? = some (.own (.lst xs)) := by rfl) : DE X ρ e d := fun B O σ H Q A k => by
  obtain ⟨a, O', h1, h2, ⟨vs0, hl⟩, h3, h4, q⟩ := A.sl.freezeL hρ
  have sb : Same (off (O ++ B) H) (off (O' ++ B) H) := off_sub fun b hb => (List.mem_append.mp hb).elim (fun q => List.mem_append_left _ (h4 b q)) (List.mem_append_right _)
  have ha : off (O' ++ B) H a = H a := off_ne fun z => (List.mem_append.mp z).elim h2 (A.dj a h1)
  have hS := q _ sb ha
  refine h B O' σ H Q ⟨hS, A.al, fun b hb => A.dj b (h4 b hb)⟩ fun v H' s r => k v H' s ?_
  cases d with
  | tup ys =>
    cases r with
    | tup hs hy =>
      rename_i p ws
      refine .tup ?_ (hy.scal hd)
      rcases hs with hs | hs
      · refine .inl ?_
        -- the tuple does not stand where the list stands
        have move : ∀ u, off (O' ++ B) H' p = some u → (∀ vs, u ≠ .lst vs) → off (O ++ B) H' p = some u := by
          intro u hu hne
          have hp : p ∉ O' ++ B := fun z => by rw [off_in z] at hu; cases hu
          rw [off_ne hp] at hu
          have hpO : p ∉ O := by
            intro z
            rcases h3 p z with rfl | z
            · have := s _ _ hl
              rw [hu] at this
              injection this with this
              exact hne vs0 this
            · exact hp (List.mem_append_left _ z)
          rw [off_ne fun z => (List.mem_append.mp z).elim hpO fun z => hp (List.mem_append_right _ z)]
          exact hu
        rcases hs with hs | ⟨o, hs⟩
        · exact .inl (move _ hs (fun vs e => by cases e))
        · exact .inr ⟨o, move _ hs (fun vs e => by cases e)⟩
      · exact .inr hs
  | non => exact r.scal rfl
  | bl b => exact r.scal rfl
  | int i => exact r.scal rfl
  | str x => exact r.scal rfl
  | _ => cases hd
end
end DL
set_option Elab.async false
set_option linter.all false
set_option maxRecDepth 100000
set_option maxHeartbeats 2000000
/-! DLF: the end's small facts. -/
namespace DL
open PySem PySem.Spec PyProof.Rows L2
/-- whether «except E» takes an error of the class C -/
theorem exm_of {K : PySem.W.Frag} {C S : Addr} {z : Bool} (h1 : PySem.W.subIn K (.ref S) (.type "BaseException") = some true) (h2 : PySem.W.isClsIn K S = true) (h3 : PySem.W.typeIn K (.ref S) = some (.type "type")) (h4 : PySem.W.subIn K (.ref C) (.ref S) = some z) :
    PySem.W.exmOne K (.ref C) (.ref S) = some z := by
  have e1 : (PySem.W.subIn K (.ref S) (.type "BaseException") == some true) = true := by rw [h1] <;> rfl
  have e2 : ((PySem.W.clsIn K S).isSome && PySem.W.typeIn K (.ref S) == some (.type "type")) = true := by
    have h2' : (PySem.W.clsIn K S).isSome = true := h2
    rw [h2', h3] <;> rfl
  show (if (PySem.W.subIn K (.ref S) (.type "BaseException") == some true) = true then (if ((PySem.W.clsIn K S).isSome && PySem.W.typeIn K (.ref S) == some (.type "type")) = true then PySem.W.subIn K (.ref C) (.ref S) else none) else none) = some z
  rw [if_pos e1, if_pos e2]
  exact h4
end DL
set_option Elab.async false
set_option linter.all false
set_option maxRecDepth 100000
set_option maxHeartbeats 2000000
/-! DLG: built-in names in one, defs by name, further rules over data. -/
namespace DL
open PySem PySem.Spec PyProof.Rows L2
/-- built-in names that the text leaves as they are -/
structure Bn (mg : Str → Option Value) : Prop where
  abs : mg "abs" = none
  all : mg "all" = none
  any : mg "any" = none
  bool : mg "bool" = none
  dict : mg "dict" = none
  enumerate : mg "enumerate" = none
  int : mg "int" = none
  isi : mg "isinstance" = none
  len : mg "len" = none
  list : mg "list" = none
  max : mg "max" = none
  min : mg "min" = none
  range : mg "range" = none
  reversed : mg "reversed" = none
  set : mg "set" = none
  sorted : mg "sorted" = none
  str : mg "str" = none
  sum : mg "sum" = none
  tuple : mg "tuple" = none
  zip : mg "zip" = none
  ve : mg "ValueError" = none
/-- a def by its name -/
structure Fn (P : Program) (w : World) (K : PySem.W.Frag) (mg : Str → Option Value) (base : Heap) (CX : CXT) (k : Nat) (x : Str) (ps : List Str) (sp : Sp) : Prop where
  ex : ∃ f fd, FnOk P w K mg base CX k f fd ps sp ∧ Binds K fd ps [] ∧ mg x = some (.ref f) ∧ PySem.W.keepIn K (.ref f) = true
/-- a name of the module that bears data -/
def GV (mg : Str → Option Value) (x : Str) (d : D) : Prop := ∃ v u, mg x = some u ∧ RelV v u ∧ ∀ K H, DR K H v d
theorem GV.int {mg : Str → Option Value} {x : Str} {u : Value} {i : Int} (h : mg x = some u) (r : RelV (.int i) u) : GV mg x (.int i) := ⟨_, _, h, r, fun _ _ => .int i⟩
theorem GV.str {mg : Str → Option Value} {x : Str} {u : Value} {i : Str} (h : mg x = some u) (r : RelV (.str i) u) : GV mg x (.str i) := ⟨_, _, h, r, fun _ _ => .str i⟩
section
variable {X : Cx} {ρ : List Sl} {e a b c o i : Expr} {es : List Expr} {ds xs ys : List D} {d da db : D} {m : MO} {p pos apos cpos : Pos} {D' : DEnds}
theorem de_gl {x : Str} (h : GV X.mg x d) (hg : Gl X x := by rfl) (hd : (x == ("__debug__" : Str)) = false := by decide) : DE X ρ (.Name x pos) d := by
  obtain ⟨v, u, h1, h2, h3⟩ := h
  exact de_glob hg h1 h2 (fun H => h3 _ H) hd
theorem de_callF {CX : CXT} {k : Nat} {ps : List Str} {R : List D → Out → Prop} {x : Str} {E : XK} (F : Fn X.prog X.w X.K X.mg X.base CX k x ps (spD X.K R)) (hr : Room k X.A) (hx : Passes CX X E) (ha : DA X ρ (e :: es) ds) (hR : R ds (.val d)) (hg : Gl X x := by rfl) (hd : (x == ("__debug__" : Str)) = false := by decide)
    (hs : starEach (e :: es) X.env = (false, eval e X.env) :: starEach es X.env := by rfl) (hpl : (backTo pos (starEach es X.env)).any (·.1) = false := by rfl) : DE X ρ (.Call (.Name x p) (e :: es) [] pos) d := by
  obtain ⟨f, fd, G, bb, mm, kk⟩ := F.ex
  exact de_call G hr mm kk bb hx ha hR hg hd hs hpl
theorem df_callF {CX : CXT} {k : Nat} {ps : List Str} {R : List D → Out → Prop} {x : Str} {E : XK} (F : Fn X.prog X.w X.K X.mg X.base CX k x ps (spD X.K R)) (hr : Room k X.A) (hx : Passes CX X E) (ha : DA X ρ (e :: es) ds) (hR : R ds (.new m)) (hg : Gl X x := by rfl) (hd : (x == ("__debug__" : Str)) = false := by decide)
    (hs : starEach (e :: es) X.env = (false, eval e X.env) :: starEach es X.env := by rfl) (hpl : (backTo pos (starEach es X.env)).any (·.1) = false := by rfl) : DF X ρ (.Call (.Name x p) (e :: es) [] pos) m := by
  obtain ⟨f, fd, G, bb, mm, kk⟩ := F.ex
  exact df_call G hr mm kk bb hx ha hR hg hd hs hpl
theorem df_callNF {CX : CXT} {k : Nat} {ps : List Str} {Pre : List D → Prop} {R : List D → Out → Prop} {M : MO → Prop} {x : Str} {E : XK} (F : Fn X.prog X.w X.K X.mg X.base CX k x ps (spN X.K Pre R)) (hr : Room k X.A) (hx : Passes CX X E) (ha : DA X ρ (e :: es) ds) (hP : Pre ds) (hR : ∀ out, R ds out → ∃ m, out = .new m ∧ M m) (hg : Gl X x := by rfl) (hd : (x == ("__debug__" : Str)) = false := by decide)
    (hs : starEach (e :: es) X.env = (false, eval e X.env) :: starEach es X.env := by rfl) (hpl : (backTo pos (starEach es X.env)).any (·.1) = false := by rfl) : DFN X ρ (.Call (.Name x p) (e :: es) [] pos) M := by
  obtain ⟨f, fd, G, bb, mm, kk⟩ := F.ex
  exact df_callN G hr mm kk bb hx ha hP hR hg hd hs hpl
theorem de_callNF {CX : CXT} {k : Nat} {ps : List Str} {Pre : List D → Prop} {R : List D → Out → Prop} {M : D → Prop} {x : Str} {E : XK} (F : Fn X.prog X.w X.K X.mg X.base CX k x ps (spN X.K Pre R)) (hr : Room k X.A) (hx : Passes CX X E) (ha : DA X ρ (e :: es) ds) (hP : Pre ds) (hR : ∀ out, R ds out → ∃ d, out = .val d ∧ M d) (hg : Gl X x := by rfl) (hd : (x == ("__debug__" : Str)) = false := by decide)
    (hs : starEach (e :: es) X.env = (false, eval e X.env) :: starEach es X.env := by rfl) (hpl : (backTo pos (starEach es X.env)).any (·.1) = false := by rfl) : DEN X ρ (.Call (.Name x p) (e :: es) [] pos) M := by
  obtain ⟨f, fd, G, bb, mm, kk⟩ := F.ex
  exact de_callN G hr mm kk bb hx ha hP hR hg hd hs hpl
theorem dx_callF {k : Nat} {ps : List Str} {R : List D → Out → Prop} {x : Str} {C : Addr} {fs : Option (List (Str × D))} (F : Fn X.prog X.w X.K X.mg X.base (L2N.CX X.prog X.w) k x ps (spD X.K R)) (hr : Room k X.A) (ha : DA X ρ (e :: es) ds) (hR : R ds (.exc C fs)) (hg : Gl X x := by rfl) (hd : (x == ("__debug__" : Str)) = false := by decide)
    (hs : starEach (e :: es) X.env = (false, eval e X.env) :: starEach es X.env := by rfl) (hpl : (backTo pos (starEach es X.env)).any (·.1) = false := by rfl) : DEX X ρ (.Call (.Name x p) (e :: es) [] pos) C fs := by
  obtain ⟨f, fd, G, bb, mm, kk⟩ := F.ex
  exact dx_call G hr mm kk bb ha hR hg hd hs hpl
/-! ### int(b), xs[::-1], all, any -/
theorem de_intB {z : Bool} (hm : X.mg "int" = none) (h : DE X ρ e (.bl z)) (hg : Gl X "int" := by rfl) (he : starEach (e :: []) X.env = (false, eval e X.env) :: starEach [] X.env := by rfl) :
    DE X ρ (.Call (.Name "int" p) [e] [] pos) (.int (if z = true then 1 else 0)) :=
  de_callTy call_int1 hg hm (by decide +kernel) (da_cons h da_nil he) (fun Z H vs Q r _ k => by
    obtain ⟨v, rfl, r1⟩ := r.inv1
    cases r1
    exact .inr ⟨_, rfl, k _ _ (Same.refl _) (.int _)⟩) (he := he)
theorem DRs.reverse {K : PySem.W.Frag} {G : Hp} : ∀ {vs : List V} {ds : List D}, DRs K G vs ds → DRs K G vs.reverse ds.reverse
  | _, _, .nil => .nil
  | _, _, .cons r h => by rw [List.reverse_cons, List.reverse_cons]; exact (DRs.reverse h).append (.one r)
theorem df_rev {k : Nat} {p1 p2 p3 : Pos} (h : DE X ρ e (.lst ds)) : DF X ρ (.Subscript e (.Slice none none (some (.UnaryOp .USub (.Constant (.int 1) k p1) p2)) p3) pos) (.lst ds.reverse) := fun B O σ H Q A k =>
  (pe_revL pe_se).se (h B O σ H _ A fun x H1 s1 r1 => by
    cases r1 with
    | lst hs ha => exact ⟨_, _, rfl, hs.imp (rd_mono off_le) id, fun p hp => k p _ _ (s1.free hp) (s1.trans (same_upd hp)) upd_same (.lst (ha.reverse.mono (off_new hp)))⟩)
theorem de_all {bs : List Bool} (hc : X.calm = true) (hm : X.mg "all" = none) (h : DE X ρ e (.lst (bs.map .bl))) (hg : Gl X "all" := by rfl) (he : starEach (e :: []) X.env = (false, eval e X.env) :: starEach [] X.env := by rfl) :
    DE X ρ (.Call (.Name "all" p) [e] [] pos) (.bl (bs.all id)) :=
  de_callB (cr_all hc) hg hm (by decide +kernel) (da_cons h da_nil he) (fun Z H vs Q r _ k => by
    obtain ⟨v, rfl, r1⟩ := r.inv1
    cases r1 with
    | lst hs ha =>
      obtain rfl := ha.bls
      exact ⟨_, _, rfl, hs.imp (rd_mono off_le) id, k _ _ (Same.refl _) (.bl _)⟩) (he := he)
theorem de_any {bs : List Bool} (hc : X.calm = true) (hm : X.mg "any" = none) (h : DE X ρ e (.lst (bs.map .bl))) (hg : Gl X "any" := by rfl) (he : starEach (e :: []) X.env = (false, eval e X.env) :: starEach [] X.env := by rfl) :
    DE X ρ (.Call (.Name "any" p) [e] [] pos) (.bl (bs.any id)) :=
  de_callB (cr_any hc) hg hm (by decide +kernel) (da_cons h da_nil he) (fun Z H vs Q r _ k => by
    obtain ⟨v, rfl, r1⟩ := r.inv1
    cases r1 with
    | lst hs ha =>
      obtain rfl := ha.bls
      exact ⟨_, _, rfl, hs.imp (rd_mono off_le) id, k _ _ (Same.refl _) (.bl _)⟩) (he := he)
/-! ### zip of two lists -/
theorem zipWith_get {α β γ : Type} {f : α → β → γ} {xs : List α} {ys : List β} {i : Nat} {z : γ} (h : (List.zipWith f xs ys)[i]? = some z) : ∃ x y, xs[i]? = some x ∧ ys[i]? = some y ∧ z = f x y := by
  rw [List.getElem?_zipWith] at h
  cases hx : xs[i]? with
  | none => rw [hx] at h; cases h
  | some x =>
    cases hy : ys[i]? with
    | none => rw [hx, hy] at h; cases h
    | some y => rw [hx, hy] at h; cases h; exact ⟨x, y, rfl, rfl, rfl⟩
theorem di_zip {elts : List Expr} {kk : Nat} {tpos : Pos} (hm : X.mg "zip" = none) (h : DE X ρ a (.lst xs)) (h' : DE X ρ b (.lst ys)) (hg : Gl X "zip" := by rfl)
    (hs : starEach [a, b] X.env = (false, eval a X.env) :: starEach [b] X.env := by rfl) (hs2 : starEach [b] X.env = (false, eval b X.env) :: starEach [] X.env := by rfl) (hpl : (backTo pos (starEach [b] X.env)).any (·.1) = false := by rfl) :
    DI X ρ (.Tuple elts kk tpos) (.Call (.Name "zip" p) [a, b] [] pos) (List.zipWith (fun x y => .tup [x, y]) xs ys) := fun B O σ H R A k =>
  (pi_zip hg hm pa_sa hs hpl).si (da_cons h (da_cons h' da_nil hs2) hs B O σ H _ A fun vs H1 s1 r1 => by
    obtain ⟨v, w, rfl, r, r'⟩ := r1.inv2
    cases r with
    | @lst l vs1 _ hl al =>
      cases r' with
      | @lst l2 vs2 _ hl2 al2 =>
        refine ⟨_, _, _, _, rfl, hl.imp (rd_mono off_le) id, hl2.imp (rd_mono off_le) id, k _ _ s1 ⟨fun B' O' H2 g al' i d hd => ?_, fun B' O' H2 g i hi => ?_⟩⟩
        · obtain ⟨x, y, hx, hy, rfl⟩ := zipWith_get hd
          obtain ⟨vx, ex, rx⟩ := al.get i hx
          obtain ⟨vy, ey, ry⟩ := al2.get i hy
          have q1 : SqL X.K H2 l vs1 := (g.trans off_le).seq hl
          have q2 : SqL X.K H2 l2 vs2 := (g.trans off_le).seq hl2
          refine ⟨⟨_, _, _, _, q1, q2, ex, ey⟩, fun z H3 ⟨T, x', y', hz, hT, hH3, k1, k2⟩ => ?_⟩
          subst hz hH3
          have e1 := k1 _ q1
          have e2 := k2 _ q2
          rw [ex] at e1; rw [ey] at e2
          cases e1; cases e2
          refine ⟨same_upd hT, .tup (SqT.of (by rw [off_ne (al'.new hT)]; exact upd_same)) (.cons ((rx.mono g).mono (off_same (same_upd hT))) (.cons ((ry.mono g).mono (off_same (same_upd hT))) .nil))⟩
        · refine ⟨_, _, (g.trans off_le).seq hl, (g.trans off_le).seq hl2, ?_⟩
          rw [List.length_zipWith] at hi
          rw [al.length, al2.length]
          omega)
/-! ### sorted -/
def isort (ns : List Int) : List Int := ns.mergeSort (fun a b => decide (a ≤ b))
theorem isort_perm (ns : List Int) : (isort ns).Perm ns := List.mergeSort_perm ns _
theorem isort_sorted (ns : List Int) : (isort ns).Pairwise (· ≤ ·) := by
  have h := List.pairwise_mergeSort (le := fun a b : Int => decide (a ≤ b)) (fun a b c h1 h2 => by simp at *; omega) (fun a b => by simp; omega) ns
  exact h.imp fun h => by simpa using h
theorem sorted_uniq : ∀ {xs ys : List Int}, xs.Pairwise (· ≤ ·) → ys.Pairwise (· ≤ ·) → xs.Perm ys → xs = ys := fun h1 h2 p => p.eq_of_pairwise (fun a b _ _ h h' => Int.le_antisymm h h') h1 h2
theorem df_sortedI {ns : List Int} (hm : X.mg "sorted" = none) (h : DE X ρ e (.lst (ns.map .int))) (hg : Gl X "sorted" := by rfl) (he : starEach (e :: []) X.env = (false, eval e X.env) :: starEach [] X.env := by rfl)
    (hpl : (backTo pos (starEach [] X.env)).any (·.1) = false := by rfl) : DF X ρ (.Call (.Name "sorted" p) [e] [] pos) (.lst ((isort ns).map .int)) := fun B O σ H Q A k =>
  (pe_callB cr_sortedI hg hm (by decide +kernel) pa_sa (by decide) (by decide) he hpl).se (da_cons h da_nil he B O σ H _ A fun vs H1 s1 r1 => by
    obtain ⟨v, rfl, r⟩ := r1.inv1
    cases r with
    | lst hs ha =>
      obtain rfl := ha.ints
      refine ⟨_, _, rfl, hs.imp (rd_mono off_le) id, fun ns' p h1 h2 hp => ?_⟩
      obtain rfl := sorted_uniq h2 (isort_sorted ns) (h1.trans (isort_perm ns).symm)
      exact k p _ _ (s1.free hp) (s1.trans (same_upd hp)) upd_same (.lst (DRs.of_ints _)))
end
end DL
set_option Elab.async false
set_option linter.all false
set_option maxRecDepth 100000
set_option maxHeartbeats 2000000
/-! DLH: dicts, insert, index, sorted pairs, data compared with itself. -/
namespace DL
open PySem PySem.Spec PyProof.Rows L2
/-! ### dicts -/
def kD : Key → D
  | .inl i => .int i
  | .inr x => .str x
def valD (ks : List (Key × D)) (k : Key) : Option D := (ks.find? fun kv => decide (kv.1 = k)).map (·.2)
def putD (ks : List (Key × D)) (k : Key) (d : D) : List (Key × D) :=
  if (ks.any fun kv => decide (kv.1 = k)) = true then ks.map (fun kv => if kv.1 = k then (kv.1, d) else kv) else ks ++ [(k, d)]
theorem valD_put {ks : List (Key × D)} {k k' : Key} {d : D} : valD (putD ks k d) k' = if k' = k then some d else valD ks k' := by
  unfold putD valD
  by_cases h : (ks.any fun kv => decide (kv.1 = k)) = true
  · rw [if_pos h]
    induction ks with
    | nil => simp at h
    | cons p r ih =>
      obtain ⟨a, b⟩ := p
      by_cases hk : a = k
      · subst hk
        by_cases e : k' = a
        · subst e; simp
        · have ha : ¬ a = k' := fun z => e z.symm
          simp only [List.map_cons, if_true, List.find?_cons, decide_eq_false ha, if_neg e]
          clear ih h
          induction r with
          | nil => rfl
          | cons q t ih2 =>
            obtain ⟨c, f⟩ := q
            simp only [List.map_cons, List.find?_cons]
            by_cases hc : c = a
            · subst hc; simp only [if_true, decide_eq_false ha]; exact ih2
            · simp only [if_neg hc]
              by_cases hck : c = k'
              · simp [hck]
              · simp only [decide_eq_false hck]; exact ih2
      · have hr : (r.any fun kv => decide (kv.1 = k)) = true := by simpa [hk] using h
        have ih := ih hr
        simp only [List.map_cons, if_neg hk, List.find?_cons]
        by_cases hck : a = k'
        · subst hck; rw [if_neg hk]; simp
        · simp only [decide_eq_false hck]; exact ih
  · rw [if_neg h, List.find?_append]
    by_cases e : k' = k
    · subst e
      have : (ks.find? fun kv => decide (kv.1 = k')) = none := by
        rw [List.find?_eq_none]
        intro x hx hk
        exact h (List.any_eq_true.mpr ⟨x, hx, hk⟩)
      rw [this]; simp
    · have : ([(k, d)].find? fun kv => decide (kv.1 = k')) = none := by
        simp only [List.find?_cons, List.find?_nil, decide_eq_false (show ¬ k = k' from fun z => e z.symm)]
      rw [this, Option.or_none, if_neg e]
theorem putD_len (ks : List (Key × D)) (k : Key) (d : D) : (putD ks k d).length ≤ ks.length + 1 := by
  unfold putD
  split
  · simp
  · simp
theorem DRk.length {K : PySem.W.Frag} {G : Hp} {vs : List (Key × V)} {ds : List (Key × D)} (h : DRk K G vs ds) : vs.length = ds.length := by
  induction ds generalizing vs with
  | nil => cases h; rfl
  | cons d ds ih => cases h with | cons _ r => simp [ih r]
theorem DRk.val {K : PySem.W.Frag} {G : Hp} {vs : List (Key × V)} {ds : List (Key × D)} (h : DRk K G vs ds) (k : Key) : (valV vs k = none ∧ valD ds k = none) ∨ ∃ v d, valV vs k = some v ∧ valD ds k = some d ∧ DR K G v d := by
  induction ds generalizing vs with
  | nil => cases h; exact .inl ⟨rfl, rfl⟩
  | cons p ds ih =>
    cases h with
    | @cons k0 v vs d ds h1 r =>
      by_cases e : k0 = k
      · refine .inr ⟨v, d, ?_, ?_, h1⟩
        · simp [valV, e]
        · simp [valD, e]
      · rcases ih r with ⟨a, b⟩ | ⟨v', d', a, b, c⟩
        · refine .inl ⟨?_, ?_⟩
          · simpa [valV, List.find?_cons, e] using a
          · simpa [valD, List.find?_cons, e] using b
        · refine .inr ⟨v', d', ?_, ?_, c⟩
          · simpa [valV, List.find?_cons, e] using a
          · simpa [valD, List.find?_cons, e] using b
theorem DRk.put {K : PySem.W.Frag} {G : Hp} {vs : List (Key × V)} {ds : List (Key × D)} {v : V} {d : D} (h : DRk K G vs ds) (k : Key) (r : DR K G v d) : DRk K G (putK vs k v) (putD ds k d) := by
  have hany : ∀ {vs : List (Key × V)} {ds : List (Key × D)}, DRk K G vs ds → (vs.any fun kv => decide (kv.1 = k)) = (ds.any fun kv => decide (kv.1 = k)) := by
    intro vs ds h
    induction ds generalizing vs with
    | nil => cases h; rfl
    | cons p ds ih => cases h with | cons h1 r => simp only [List.any_cons, ih r]
  have hmap : ∀ {vs : List (Key × V)} {ds : List (Key × D)}, DRk K G vs ds → DRk K G (vs.map fun kv => if kv.1 = k then (kv.1, v) else kv) (ds.map fun kv => if kv.1 = k then (kv.1, d) else kv) := by
    intro vs ds h
    induction ds generalizing vs with
    | nil => cases h; exact .nil
    | cons p ds ih =>
      cases h with
      | @cons k0 v0 vs d0 ds h1 r0 =>
        simp only [List.map_cons]
        by_cases e : k0 = k
        · simp only [e, if_true]; exact .cons r (ih r0)
        · simp only [e, if_false]; exact .cons h1 (ih r0)
  have happ : ∀ {vs : List (Key × V)} {ds : List (Key × D)}, DRk K G vs ds → DRk K G (vs ++ [(k, v)]) (ds ++ [(k, d)]) := by
    intro vs ds h
    induction ds generalizing vs with
    | nil => cases h; exact .cons r .nil
    | cons p ds ih => cases h with | cons h1 r0 => exact .cons h1 (ih r0)
  unfold putK putD
  rw [hany h]
  split
  · exact hmap h
  · exact happ h
section
variable {X : Cx} {ρ : List Sl} {e f a b c o i : Expr} {es : List Expr} {ds xs ys : List D} {ks : List (Key × D)} {d da db : D} {m : MO} {p pos apos cpos pos' : Pos} {D' : DEnds}
theorem m2_of {m : Str} (h1 : attributeBase o m X.env (eval o X.env) = eval o X.env) (h2 : ((backTo cpos (starEach [e, f] X.env)).all (fun x => !x.1) && (backToKw cpos (keywordEach [] X.env)).all (fun x => x.1.isSome)
    && decide (([e, f] : List Expr).length + ([] : List Keyword).length + (if ([] : List Keyword).isEmpty then 0 else 1) < 30)) = true) (h3 : (apos.endLine == cpos.line) = true) (h4 : backTo cpos (starEach [e, f] X.env) = [(false, eval e X.env), (false, eval f X.env)]) : M2 X o m apos e f cpos := ⟨h1, h2, h3, h4⟩
theorem DR.kD {K : PySem.W.Frag} {G : Hp} {y : V} {k : Key} (r : DR K G y (DL.kD k)) : y = kV k := by
  cases k with
  | inl i => cases r; rfl
  | inr x => cases r; rfl
/-- d.get(k, x) -/
theorem de_getK2 (k : Key) (hu : X.A.units + 1 < cLine) (ho : DE X ρ o (.dic ks)) (he : DE X ρ e (kD k)) (hf : DE X ρ f d) (m : M2 X o "get" apos e f cpos) : DE X ρ (.Call (.Attribute o "get" apos) [e, f] [] cpos) ((valD ks k).getD d) := fun B O σ H Q A kk =>
  (pe_dget2 hu pe_se pe_se pe_se m).se (ho B O σ H _ A fun x H1 s1 r1 => by
    cases r1 with
    | @dic l vs _ hl hr =>
      have hl1 := off_le l _ hl
      refine ⟨_, rfl, .inl ⟨_, .inl hl1⟩, he B O σ H1 _ (A.grow s1) fun y H2 s2 r2 => ?_⟩
      obtain rfl := r2.kD
      refine hf B O σ H2 _ (A.grow (s1.trans s2)) fun z H3 s3 r3 => ⟨_, DGet.k ((s2.trans s3) _ _ hl1), ?_⟩
      rcases hr.val k with ⟨q1, q2⟩ | ⟨v, dv, q1, q2, q3⟩
      · rw [q1]; exact kk _ _ (s1.trans (s2.trans s3)) (by rw [q2]; exact r3)
      · rw [q1]; exact kk _ _ (s1.trans (s2.trans s3)) (by rw [q2]; exact q3.mono (off_same (s2.trans s3))))
theorem de_get2 {i : Int} (hu : X.A.units + 1 < cLine) (ho : DE X ρ o (.dic ks)) (he : DE X ρ e (.int i)) (hf : DE X ρ f d) (h1 : attributeBase o "get" X.env (eval o X.env) = eval o X.env := by rfl) (h2 : ((backTo cpos (starEach [e, f] X.env)).all (fun x => !x.1) && (backToKw cpos (keywordEach [] X.env)).all (fun x => x.1.isSome)
    && decide (([e, f] : List Expr).length + ([] : List Keyword).length + (if ([] : List Keyword).isEmpty then 0 else 1) < 30)) = true := by rfl) (h3 : (apos.endLine == cpos.line) = true := by rfl) (h4 : backTo cpos (starEach [e, f] X.env) = [(false, eval e X.env), (false, eval f X.env)] := by rfl) :
    DE X ρ (.Call (.Attribute o "get" apos) [e, f] [] cpos) ((valD ks (.inl i)).getD d) := de_getK2 (.inl i) hu ho he hf ⟨h1, h2, h3, h4⟩
theorem de_get2S {i : Str} (hu : X.A.units + 1 < cLine) (ho : DE X ρ o (.dic ks)) (he : DE X ρ e (.str i)) (hf : DE X ρ f d) (h1 : attributeBase o "get" X.env (eval o X.env) = eval o X.env := by rfl) (h2 : ((backTo cpos (starEach [e, f] X.env)).all (fun x => !x.1) && (backToKw cpos (keywordEach [] X.env)).all (fun x => x.1.isSome)
    && decide (([e, f] : List Expr).length + ([] : List Keyword).length + (if ([] : List Keyword).isEmpty then 0 else 1) < 30)) = true := by rfl) (h3 : (apos.endLine == cpos.line) = true := by rfl) (h4 : backTo cpos (starEach [e, f] X.env) = [(false, eval e X.env), (false, eval f X.env)] := by rfl) :
    DE X ρ (.Call (.Attribute o "get" apos) [e, f] [] cpos) ((valD ks (.inr i)).getD d) := de_getK2 (.inr i) hu ho he hf ⟨h1, h2, h3, h4⟩
/-- d[k], there -/
theorem de_dixK (k : Key) (hu : X.A.units + 1 < cLine) (ho : DE X ρ o (.dic ks)) (he : DE X ρ i (kD k)) (q : valD ks k = some d) (hp : NoSl i := by exact (fun _ _ => rfl)) : DE X ρ (.Subscript o i pos) d := fun B O σ H Q A kk =>
  (pe_dget hu pe_se pe_se hp).se (ho B O σ H _ A fun x H1 s1 r1 => by
    cases r1 with
    | @dic l vs _ hl hr =>
      have hl1 := off_le l _ hl
      refine he B O σ H1 _ (A.grow s1) fun y H2 s2 r2 => ?_
      obtain rfl := r2.kD
      rcases hr.val k with ⟨q1, q2⟩ | ⟨v, dv, q1, q2, q3⟩
      · rw [q] at q2; cases q2
      · rw [q] at q2; cases q2
        exact ⟨_, v, rfl, q1 ▸ DGet.k (s2 _ _ hl1), kk _ _ (s1.trans s2) (q3.mono (off_same s2))⟩)
theorem de_dix {n : Int} (hu : X.A.units + 1 < cLine) (ho : DE X ρ o (.dic ks)) (he : DE X ρ i (.int n)) (q : valD ks (.inl n) = some d) (hp : NoSl i := by exact (fun _ _ => rfl)) : DE X ρ (.Subscript o i pos) d := de_dixK (.inl n) hu ho he q hp
theorem de_dixS {n : Str} (hu : X.A.units + 1 < cLine) (ho : DE X ρ o (.dic ks)) (he : DE X ρ i (.str n)) (q : valD ks (.inr n) = some d) (hp : NoSl i := by exact (fun _ _ => rfl)) : DE X ρ (.Subscript o i pos) d := de_dixK (.inr n) hu ho he q hp
/-- k in d -/
theorem dt_inD (k : Key) (hu : X.A.units + 1 < cLine) (he : DE X ρ e (kD k)) (ho : DE X ρ o (.dic ks)) (h1 : behindInMarks .In o = false := by first | exact nobehind _ (by decide) (by decide) | rfl) : DT X ρ (.Compare e [.In] [o] pos) (valD ks k).isSome := fun B O σ H Q A kk =>
  (pt_cmp (pc_din hu pe_se pe_se) h1).st (he B O σ H _ A fun y H1 s1 r1 => by
    obtain rfl := r1.kD
    refine ho B O σ H1 _ (A.grow s1) fun x H2 s2 r2 => ?_
    cases r2 with
    | @dic l vs _ hl hr =>
      have hl1 := off_le l _ hl
      refine ⟨_, _, rfl, DGet.k hl1, ?_⟩
      rcases hr.val k with ⟨q1, q2⟩ | ⟨v, dv, q1, q2, q3⟩
      · rw [q1]; exact ⟨_, rfl, by have := kk H2 (s1.trans s2); rw [q2] at this; exact this⟩
      · rw [q1]; exact ⟨_, rfl, by have := kk H2 (s1.trans s2); rw [q2] at this; exact this⟩)
theorem dt_notInD (k : Key) (hu : X.A.units + 1 < cLine) (he : DE X ρ e (kD k)) (ho : DE X ρ o (.dic ks)) (h1 : behindInMarks .NotIn o = false := by first | exact nobehind _ (by decide) (by decide) | rfl) : DT X ρ (.Compare e [.NotIn] [o] pos) (!(valD ks k).isSome) := fun B O σ H Q A kk =>
  (pt_cmp (pc_dnotin hu pe_se pe_se) h1).st (he B O σ H _ A fun y H1 s1 r1 => by
    obtain rfl := r1.kD
    refine ho B O σ H1 _ (A.grow s1) fun x H2 s2 r2 => ?_
    cases r2 with
    | @dic l vs _ hl hr =>
      have hl1 := off_le l _ hl
      refine ⟨_, _, rfl, DGet.k hl1, ?_⟩
      rcases hr.val k with ⟨q1, q2⟩ | ⟨v, dv, q1, q2, q3⟩
      · rw [q1]; exact ⟨_, rfl, by have := kk H2 (s1.trans s2); rw [q2] at this; exact this⟩
      · rw [q1]; exact ⟨_, rfl, by have := kk H2 (s1.trans s2); rw [q2] at this; exact this⟩)
theorem df_dict0 : DF X ρ (.Dict [] [] pos) (.dic []) := fun B O σ H Q A k =>
  pe_dnewK.se fun p hp => k p _ _ hp (same_upd hp) upd_same (.dic .nil)
/-- d[k] = v, d owned -/
theorem ds_dputK (k : Key) (j : Nat) {x : Str} {value : Expr} {pp : Pos} (hu : X.A.units + 1 < cLine) (hv : DE X ρ value d) (he : DE X ρ i (kD k)) (hl : ks.length < sizeLine) (kk : D'.nx (ρ.set j (.own (.dic (putD ks k d))))) (hρ : ρ[j]? = some (.own (.dic ks)) := by rfl) (hN : X.N[j]? = some x := by rfl)
    (hvis : Vis X.env.scope x := by first | exact .inl rfl | exact .inr (.inl rfl) | exact .inr (.inr rfl)) (hd : (x == ("__debug__" : Str)) = false := by decide) (hcd : (x == ("__classdict__" : Str)) = false := by decide)
    (hs : swapsWith value (some (.Subscript (.Name x p) i pos')) pos.line X.env = pure false := by rfl) : DS X ρ (.Assign [.Subscript (.Name x p) i pos'] value pos) D' := fun B O σ H H0 De W T A s0 C =>
  (ps_dput hu (pe_var hN hvis hd hcd) pe_se pe_se hs).ss (hv B O σ H _ A fun v H1 s1 r1 => by
    obtain ⟨a, o, e1, e2, e3, e4, q⟩ := (A.grow s1).sl.own_at hρ
    cases e4 with
    | dic ha =>
      refine ⟨_, e1, he B O σ H1 _ (A.grow s1) fun y H2 s2 r2 => ?_⟩
      obtain rfl := r2.kD
      refine ⟨a, _, rfl, DPut.k (s2 _ _ e3) (by rw [ha.length]; exact hl), ?_⟩
      obtain ⟨a', o', f1, f2, f3, f4, q'⟩ := (A.grow (s1.trans s2)).sl.own_at hρ
      rw [e1] at f1; cases f1
      have hoff : ∀ o, off (O ++ B) (upd H2 a o) = off (O ++ B) H2 := fun o => off_upd_in (List.mem_append_left _ e2)
      refine C.nx _ O _ _ kk ⟨by rw [hoff]; exact q' _ _ (.dic ((ha.mono (off_same s2)).put k (r1.mono (off_same s2)))), fun b hb => ?_, A.dj⟩ ?_
      · rw [upd_ne (show b ≠ a from fun z => A.dj a e2 (z ▸ hb))]; exact A.al.mono (s1.trans s2) b hb
      · rw [off_upd_in e2]
        exact keep_grow s0 (s1.trans s2))
theorem ds_dput (j : Nat) {x : Str} {value : Expr} {n : Int} (hu : X.A.units + 1 < cLine) (hv : DE X ρ value d) (he : DE X ρ i (.int n)) (hl : ks.length < sizeLine) (kk : D'.nx (ρ.set j (.own (.dic (putD ks (.inl n) d))))) (hρ : ρ[j]? = some (.own (.dic ks)) := by rfl) (hN : X.N[j]? = some x := by rfl)
    (hvis : Vis X.env.scope x := by first | exact .inl rfl | exact .inr (.inl rfl) | exact .inr (.inr rfl)) (hd : (x == ("__debug__" : Str)) = false := by decide) (hcd : (x == ("__classdict__" : Str)) = false := by decide)
    (hs : swapsWith value (some (.Subscript (.Name x p) i pos')) pos.line X.env = pure false := by rfl) : DS X ρ (.Assign [.Subscript (.Name x p) i pos'] value pos) D' := ds_dputK (pp := pos) (.inl n) j hu hv he hl kk hρ hN hvis hd hcd hs
/-! ### xs.insert(j, e) -/
theorem ds_insert (j : Nat) {x : Str} {b : Expr} {n : Nat} {ds : List DL.D} (hb : DE X ρ b (.int (n : Int))) (he : DE X ρ e d) (hn : n < 2 ^ 62) (hl : ds.length < sizeLine) (k : D'.nx (ρ.set j (.own (.lst (ds.take n ++ [d] ++ ds.drop n))))) (hρ : ρ[j]? = some (.own (.lst ds)) := by rfl) (hN : X.N[j]? = some x := by rfl)
    (hv : Vis X.env.scope x := by first | exact .inl rfl | exact .inr (.inl rfl) | exact .inr (.inr rfl)) (hd : (x == ("__debug__" : Str)) = false := by decide) (hcd : (x == ("__classdict__" : Str)) = false := by decide)
    (q1 : attributeBase (.Name x p) "insert" X.env (eval (.Name x p) X.env) = eval (.Name x p) X.env := by rfl)
    (q2 : ((((backTo cpos (starEach (b :: [e]) X.env)).all fun x => !x.1) && (backToKw cpos (keywordEach [] X.env)).all fun x => x.1.isSome) && decide (((b :: [e]).length + ([] : List Keyword).length + if ([] : List Keyword).isEmpty = true then 0 else 1) < 30)) = true := by rfl)
    (q3 : (apos.endLine == cpos.line) = true := by rfl) (q4 : starEach (b :: [e]) X.env = (false, eval b X.env) :: starEach [e] X.env := by rfl) (q6 : starEach (e :: []) X.env = (false, eval e X.env) :: starEach [] X.env := by rfl) (q5 : (backTo cpos (starEach [e] X.env)).any (·.1) = false := by rfl)
    (hs : swapsWith (.Call (.Attribute (.Name x p) "insert" apos) [b, e] [] cpos) none pos.line X.env = pure false := by rfl) :
    DS X ρ (.Expr (.Call (.Attribute (.Name x p) "insert" apos) [b, e] [] cpos) pos) D' := fun B O σ H H0 De W T A s0 C => by
  refine (ps_expr (pe_bm (e := b) (es := [e]) PySem.F.plainAttrs_list PySem.F.slot_list_insert PySem.F.type_list_insert mt_insert (pe_var hN hv hd hcd) pa_sa q1 q2 q3 q4 q5) hs).ss ?_
  obtain ⟨a, o, e1, e2, e3, e4, q⟩ := A.sl.own_at hρ
  cases e4 with
  | lst ha =>
    refine ⟨_, e1, .inl ⟨rfl, _, SqL.of e3⟩, ?_⟩
    refine da_cons hb (da_cons he da_nil q6) q4 B O σ H _ A fun ws H1 s1 r1 => ?_
    obtain ⟨w, v, rfl, r0, r⟩ := r1.inv2
    cases r0
    refine ⟨_, _, (n : Int), v, rfl, rfl, s1 _ _ e3, by rw [ha.length]; exact hl, by omega, by omega, ?_⟩
    obtain ⟨a', o', f1, f2, f3, f4, q'⟩ := (A.grow s1).sl.own_at hρ
    rw [e1] at f1; cases f1
    have hoff : ∀ o, off (O ++ B) (upd H1 a o) = off (O ++ B) H1 := fun o => off_upd_in (List.mem_append_left _ e2)
    have en : ((n : Int)).toNat = n := by omega
    refine C.nx _ O _ _ k ⟨by rw [hoff, en]; exact q' _ _ (.lst ((((ha.mono (off_same s1)).take n).append (.one r)).append ((ha.mono (off_same s1)).drop n))), fun b hb => ?_, A.dj⟩ ?_
    · rw [upd_ne (show b ≠ a from fun z => A.dj a e2 (z ▸ hb))]; exact A.al.mono s1 b hb
    rw [off_upd_in e2]
    exact keep_grow s0 s1
/-! ### l.index(x) -/
theorem de_index {j : Nat} {z : D} (hu : X.A.units + 65 < cLine) (ho : DE X ρ o (.lst ds)) (he : DE X ρ e d) (h1 : d.ok = true) (h2 : D.oks ds = true) (sd : SeqAt.shaped d.py = true) (ss : SeqAt.shaped (.list (D.pys ds)) = true) (hz : ds[j]? = some z) (hzj : PyData.eqv z.py d.py = true) (hno : ∀ (m : Nat) (z' : D), m < j → ds[m]? = some z' → PyData.eqv z'.py d.py = false)
    (q1 : attributeBase o "index" X.env (eval o X.env) = eval o X.env := by rfl)
    (q2 : ((((backTo cpos (starEach (e :: []) X.env)).all fun x => !x.1) && (backToKw cpos (keywordEach [] X.env)).all fun x => x.1.isSome) && decide (((e :: []).length + ([] : List Keyword).length + if ([] : List Keyword).isEmpty = true then 0 else 1) < 30)) = true := by rfl)
    (q3 : (apos.endLine == cpos.line) = true := by rfl) (q4 : starEach (e :: []) X.env = (false, eval e X.env) :: starEach [] X.env := by rfl) (q5 : (backTo cpos (starEach [] X.env)).any (·.1) = false := by rfl) :
    DE X ρ (.Call (.Attribute o "index" apos) [e] [] cpos) (.int (j : Int)) := fun B O σ H Q A k => by
  have pys_get : ∀ (ds : List D) (m : Nat), (D.pys ds)[m]? = (ds[m]?).map D.py := by
    intro ds
    induction ds with
    | nil => intro m; rfl
    | cons d ds ih => intro m; cases m with
      | zero => rfl
      | succ m => simpa [D.pys] using ih m
  refine (pe_bm (e := e) (es := []) PySem.F.plainAttrs_list PySem.F.slot_list_index PySem.F.type_list_index (mt_indexD hu) pe_se pa_sa q1 q2 q3 q4 q5).se ?_
  refine ho B O σ H _ A fun x H1 s1 r1 => ?_
  have r1' := r1
  cases r1 with
  | lst hs ha =>
    refine ⟨.inl ⟨rfl, _, hs.imp (rd_mono off_le) id⟩, ?_⟩
    refine da_cons he da_nil q4 B O σ H1 _ (A.grow s1) fun ws H2 s2 r2 => ?_
    obtain ⟨w, rfl, rw'⟩ := r2.inv1
    refine ⟨_, w, d.py, D.pys ds, j, z.py, rfl, rfl, ?_, DR.dp _ _ h1 (dr_full rw'), ss, sd, ?_, hzj, fun m z' hm hz' => ?_, k _ _ (s1.trans s2) (.int _)⟩
    · exact DR.dp (.lst ds) _ (by simpa [D.ok] using h2) (dr_full (r1'.mono (off_same s2)))
    · rw [pys_get, hz]; rfl
    · rw [pys_get] at hz'
      cases hq : ds[m]? with
      | none => rw [hq] at hz'; cases hz'
      | some y => rw [hq] at hz'; cases hz'; exact hno m y hm hq
/-! ### sorted pairs -/
def pD (p : Int × Int) : D := .tup [.int p.1, .int p.2]
def psort (ps : List (Int × Int)) : List (Int × Int) := ps.mergeSort (fun a b => !SrtO.lexB b a)
theorem psort_perm (ps : List (Int × Int)) : (psort ps).Perm ps := List.mergeSort_perm ps _
theorem psort_sorted (ps : List (Int × Int)) : (psort ps).Pairwise (fun a b => SrtO.lexB b a = false) := by
  have h := List.pairwise_mergeSort (le := fun a b : Int × Int => !SrtO.lexB b a) (fun a b c h1 h2 => by
    have h1' : SrtO.lexB b a = false := by simpa using h1
    have h2' : SrtO.lexB c b = false := by simpa using h2
    have := SrtO.lexB_no.mp h1'; have := SrtO.lexB_no.mp h2'
    have : SrtO.lexB c a = false := SrtO.lexB_no.mpr (by omega)
    simp [this]) (fun a b => by
    by_cases q : SrtO.lexB b a = true
    · have := SrtO.lexB_iff.mp q
      have : SrtO.lexB a b = false := SrtO.lexB_no.mpr (by omega)
      simp [this]
    · simp only [Bool.not_eq_true] at q; simp [q]) ps
  exact h.imp fun h => by simpa using h
theorem psorted_uniq {xs ys : List (Int × Int)} (h1 : xs.Pairwise (fun a b => SrtO.lexB b a = false)) (h2 : ys.Pairwise (fun a b => SrtO.lexB b a = false)) (p : xs.Perm ys) : xs = ys :=
  p.eq_of_pairwise (fun a b _ _ h h' => by
    have := SrtO.lexB_no.mp h; have := SrtO.lexB_no.mp h'
    have e1 : a.1 = b.1 := by omega
    have e2 : a.2 = b.2 := by omega
    exact Prod.ext e1 e2) h1 h2
def rSortedPT (K : PySem.W.Frag) : List V → Hp → VK → Prop := fun vs H Q => ∃ (a : Addr) (xs : List V) (ps : List (Int × Int)) (G : Hp), vs = [V.ref a] ∧ SqL K H a xs ∧ Same G H ∧ DRs K G xs (ps.map pD) ∧
  ∀ ys p, DRs K G ys ((psort ps).map pD) → H p = none → Q (.ref p) (upd H p (.lst ys))
theorem DR.pD {K : PySem.W.Frag} {G : Hp} {v : V} {p : Int × Int} (r : DR K G v (DL.pD p)) : ∃ t, v = .ref t ∧ SqT K G t [.int p.1, .int p.2] := by
  cases r with
  | @tup t xs _ hs ha =>
    refine ⟨t, rfl, ?_⟩
    cases ha with
    | cons r1 r2 => cases r2 with
      | cons r2 r3 => cases r3; cases r1; cases r2; exact hs
theorem cr_sortedPT : CallR X (.builtin "sorted") (rSortedPT X.K) := by
  intro pins s σ H vs us Q I r h
  obtain ⟨a, xs, ps, G, rfl, hs, hG, hx, q⟩ := h
  obtain ⟨its, rv, hl, hz⟩ := I.list hs
  obtain ⟨u, rfl, ru⟩ := vals1 r
  obtain rfl : u = Value.ref a := ru
  have hall : ∀ x ∈ xs, ∃ (p : Int × Int) (t : Addr), x = V.ref t ∧ SqT X.K G t [.int p.1, .int p.2] ∧ p ∈ ps := by
    intro x hxm
    obtain ⟨n, hn⟩ := List.getElem?_of_mem hxm
    obtain ⟨d, hd, rd⟩ := hx.get' n hn
    rw [List.getElem?_map] at hd
    cases hp : ps[n]? with
    | none => rw [hp] at hd; cases hd
    | some p =>
      rw [hp] at hd; cases hd
      obtain ⟨t, e1, e2⟩ := rd.pD
      exact ⟨p, t, e1, e2, List.mem_of_getElem? hp⟩
  classical
  let k : V → Int × Int := fun x => if h : ∃ p : Int × Int, ∃ t, x = V.ref t ∧ SqT X.K G t [.int p.1, .int p.2] then h.choose else (0, 0)
  have hk : ∀ (p : Int × Int) (t : Addr), SqT X.K G t [.int p.1, .int p.2] → k (.ref t) = p := by
    intro p t ht
    have hex : ∃ p : Int × Int, ∃ t', V.ref t = V.ref t' ∧ SqT X.K G t' [.int p.1, .int p.2] := ⟨p, t, rfl, ht⟩
    have e : k (.ref t) = hex.choose := dif_pos hex
    obtain ⟨t', e1, e2⟩ := hex.choose_spec
    cases e1
    have := I.tuple_inj (sqt_mono hG e2) (sqt_mono hG ht)
    rw [e]
    simp only [List.cons.injEq, V.int.injEq, and_true] at this
    exact Prod.ext this.1 this.2
  obtain ⟨e1, e2⟩ := refs_back rv fun x m => by
    obtain ⟨p, t, e, _⟩ := hall x m
    exact ⟨t, e⟩
  refine SrtO.sorted_pairsO (k := fun u => k (backV u)) hl.isList (by rw [← rv.length]; exact hz) (fun v hv => ?_) fun h' d out h1 h2 kp hd hn => ?_
  · obtain ⟨t, rfl⟩ := e2 v hv
    have hm : V.ref t ∈ xs := by rw [e1]; exact List.mem_map.mpr ⟨_, hv, rfl⟩
    obtain ⟨p, t', e, ht, _⟩ := hall _ hm
    cases e
    obtain ⟨its2, r2, ⟨o, ho, hc, n, hd⟩, _⟩ := I.tuple (sqt_mono hG ht)
    obtain ⟨u1, u2, rfl, ri, rj⟩ := vals2 r2
    obtain ⟨t1, rfl⟩ := ri
    obtain ⟨t2, rfl⟩ := rj
    have ek : k (backV (Value.ref t)) = p := hk p t ht
    rw [ek]
    exact ⟨t, o, t1, t2, n, rfl, ho, hc, hd⟩
  · have h3 : ∀ u ∈ out, ∃ a, u = Value.ref a := fun u hu => e2 u (h2.perm.mem_iff.mp hu)
    obtain ⟨n, hn⟩ := hn
    have hb : SrtO.Stb (ltP k) (out.map backV) xs := by
      rw [e1]
      exact SrtO.Stb.map (ltP_swo k) backV h2
    have hs2 : SrtO.Srtd (ltP k) (out.map backV) := SrtO.srtd_map h1
    have hmem : ∀ y ∈ out.map backV, ∃ t, y = V.ref t ∧ SqT X.K G t [.int (k y).1, .int (k y).2] := by
      intro y hy
      obtain ⟨p, t, e, ht, _⟩ := hall y (hb.perm.mem_iff.mp hy)
      subst e
      rw [hk p t ht]
      exact ⟨t, rfl, ht⟩
    have hmapx : xs.map k = ps := by
      have : ∀ (xs : List V) (ps : List (Int × Int)), DRs X.K G xs (ps.map DL.pD) → xs.map k = ps := by
        intro xs ps
        induction ps generalizing xs with
        | nil => intro h; cases h; rfl
        | cons p ps ih =>
          intro h
          cases h with
          | cons r1 r2 =>
            obtain ⟨t, e1, e2⟩ := r1.pD
            subst e1
            rw [List.map_cons, hk p t e2, ih _ r2]
      exact this _ _ hx
    have hys : (out.map backV).map k = psort ps := by
      refine psorted_uniq ?_ (psort_sorted ps) ?_
      · exact List.pairwise_map.mpr hs2
      · exact ((hb.perm.map k).trans (by rw [hmapx])).trans (psort_perm ps).symm
    have hdr : DRs X.K G (out.map backV) ((psort ps).map DL.pD) := by
      rw [← hys]
      have : ∀ ys : List V, (∀ y ∈ ys, ∃ t, y = V.ref t ∧ SqT X.K G t [.int (k y).1, .int (k y).2]) → DRs X.K G ys ((ys.map k).map DL.pD) := by
        intro ys
        induction ys with
        | nil => intro _; exact .nil
        | cons y ys ih =>
          intro h
          obtain ⟨t, e, ht⟩ := h y List.mem_cons_self
          refine .cons ?_ (ih fun z hz => h z (List.mem_cons_of_mem _ hz))
          have : DR X.K G (V.ref t) (DL.pD (k y)) := .tup ht (.cons (.int _) (.cons (.int _) .nil))
          rw [← e] at this
          exact this
      exact this _ hmem
    refine ⟨.ref d, upd H d (.lst (out.map backV)), I.laid (t' := s.toks) kp hd ⟨?_, out, n, vals_back h3, hn⟩, rfl, q _ d hdr (I.hok.fresh hd)⟩
    rw [hb.len]
    exact hz
theorem df_sortedP {ps : List (Int × Int)} (hm : X.mg "sorted" = none) (h : DE X ρ e (.lst (ps.map DL.pD))) (hg : Gl X "sorted" := by rfl) (he : starEach (e :: []) X.env = (false, eval e X.env) :: starEach [] X.env := by rfl)
    (hpl : (backTo pos (starEach [] X.env)).any (·.1) = false := by rfl) : DF X ρ (.Call (.Name "sorted" p) [e] [] pos) (.lst ((psort ps).map DL.pD)) := fun B O σ H Q A k =>
  (pe_callB cr_sortedPT hg hm (by decide +kernel) pa_sa (by decide) (by decide) he hpl).se (da_cons h da_nil he B O σ H _ A fun vs H1 s1 r1 => by
    obtain ⟨v, rfl, r⟩ := r1.inv1
    cases r with
    | lst hs ha =>
      exact ⟨_, _, ps, off (O ++ B) H1, rfl, hs.imp (rd_mono off_le) id, off_le, ha, fun ys p hy hp => k p _ _ (s1.free hp) (s1.trans (same_upd hp)) upd_same (.lst (hy.mono (off_new hp)))⟩)
/-! ### data compared with itself -/
theorem D.py_dep : ∀ d : D, d.py.depth ≤ d.dep := by
  intro d
  have aux : ∀ n : Nat, ∀ d : D, sizeOf d ≤ n → d.py.depth ≤ d.dep := by
    intro n
    induction n with
    | zero => intro d h; cases d <;> simp at h
    | succ n ih =>
      intro d h
      have hl : ∀ xs : List D, (∀ x ∈ xs, sizeOf x ≤ n) → PyData.depthAll (D.pys xs) ≤ D.deps xs := by
        intro xs
        induction xs with
        | nil => intro _; exact Nat.le_refl _
        | cons x xs ihx =>
          intro hx
          have h1 := ih x (hx x List.mem_cons_self)
          have h2 := ihx fun y hy => hx y (List.mem_cons_of_mem _ hy)
          simp only [D.pys, PyData.depthAll, D.deps]
          omega
      cases d with
      | lst xs =>
        have := hl xs fun x hx => by
          have := List.sizeOf_lt_of_mem hx
          simp at h; omega
        simp only [D.py, PyData.depth, D.dep]; omega
      | tup xs =>
        have := hl xs fun x hx => by
          have := List.sizeOf_lt_of_mem hx
          simp at h; omega
        simp only [D.py, PyData.depth, D.dep]; omega
      | _ => exact Nat.le_refl _
  exact aux _ d (Nat.le_refl _)
theorem c_eqSelf (h : d.ok = true) (hu : X.A.units + d.dep < cLine) : CmpD X .Eq d d true := by
  have q := c_eqP (X := X) (da := d) (db := d) h h (by have := D.py_dep d; omega)
  rw [PySem.SeqAt.eqv_refl_plain _ (D.py_plain _ h)] at q
  exact q
theorem c_neSelf (h : d.ok = true) (hu : X.A.units + d.dep < cLine) : CmpD X .NotEq d d false := by
  have q := c_neP (X := X) (da := d) (db := d) h h (by have := D.py_dep d; omega)
  rw [PySem.SeqAt.eqv_refl_plain _ (D.py_plain _ h)] at q
  exact q
theorem oks_map {α : Type} {f : α → D} (h : ∀ a, (f a).ok = true) : ∀ xs : List α, D.oks (xs.map f) = true
  | [] => rfl
  | x :: xs => by simp only [List.map_cons, D.oks, h x, oks_map h xs, Bool.and_true]
theorem deps_map {α : Type} {f : α → D} {n : Nat} (h : ∀ a, (f a).dep ≤ n) : ∀ xs : List α, D.deps (xs.map f) ≤ n
  | [] => Nat.zero_le _
  | x :: xs => by have := h x; have := deps_map h xs; simp only [List.map_cons, D.deps]; omega
end
/-- a cut of typed data -/
def cutL {α : Type} (xs : List α) (lo hi : Option Int) : List α := (xs.drop (HT.sIx xs.length 0 lo)).take (HT.sIx xs.length xs.length hi - HT.sIx xs.length 0 lo)
theorem cut_map {α : Type} (f : α → D) (xs : List α) (lo hi : Option Int) : DL.cutD (xs.map f) lo hi = (cutL xs lo hi).map f := by
  unfold DL.cutD cutL
  rw [List.length_map, List.map_take, List.map_drop]
theorem cutL_len {α : Type} (xs : List α) (lo hi : Option Int) : (cutL xs lo hi).length ≤ xs.length := by
  unfold cutL
  rw [List.length_take, List.length_drop]; omega
theorem cutL_take {α : Type} (xs : List α) (n : Nat) : cutL xs none (some (n : Int)) = xs.take n := by
  unfold cutL
  rw [HT.sIx_nat]
  show (xs.drop 0).take (min n xs.length - 0) = xs.take n
  rw [List.drop_zero, Nat.sub_zero]
  by_cases h : n ≤ xs.length
  · rw [Nat.min_eq_left h]
  · rw [Nat.min_eq_right (by omega), List.take_of_length_le (Nat.le_refl _), List.take_of_length_le (by omega)]
theorem cutL_drop {α : Type} (xs : List α) (n : Nat) : cutL xs (some (n : Int)) none = xs.drop n := by
  unfold cutL
  rw [HT.sIx_nat]
  show (xs.drop (min n xs.length)).take (xs.length - min n xs.length) = xs.drop n
  by_cases h : n ≤ xs.length
  · rw [Nat.min_eq_left h, List.take_of_length_le (by rw [List.length_drop]; omega)]
  · rw [Nat.min_eq_right (by omega), List.drop_of_length_le (Nat.le_refl _), List.drop_of_length_le (show xs.length ≤ n by omega)]; simp
end DL
set_option Elab.async false
set_option linter.all false
set_option maxRecDepth 100000
set_option maxHeartbeats 2000000
/-! DLI: what the laws' own cell and digits reckon. -/
namespace DL
open PySem PySem.Spec PyProof.Rows L2
def cellN (ns : List Int) (k : Nat) : Int := ns.getD k 0
def RCell (ds : List D) (out : Out) : Prop := ∃ (ns : List Int) (k : Nat), ds = [.lst (ns.map .int), .int k] ∧ out = .val (.int (cellN ns k))
def absI (c : Int) : Int := if c < 0 then -c else c
def mix1 (rest salt : Int) (k : Nat) : Int := ((rest + 7 * salt + 1) * 48271 + (k : Int) * 69621) % 2147483647
def mix2 (m salt : Int) (k : Nat) : Int := (m * (40692 + m % 7919) + salt * 9973 + (k : Int)) % 2147483399
def digGo (big : Bool) (salt : Int) : Nat → Int → List Int → List Int
  | _, _, [] => []
  | k, rest, s :: ss => (if big = true then rest % s else (mix2 (mix1 rest salt k) salt k / 64) % s) :: digGo big salt (k + 1) (if big = true then rest / s else rest) ss
def digits (cell : Int) (sizes : List Int) (salt : Int) : List Int := digGo (decide ((10:Int) ^ 18 ≤ absI cell)) salt 0 (absI cell) sizes
theorem digGo_len (big : Bool) (salt : Int) : ∀ (k : Nat) (rest : Int) (ss : List Int), (digGo big salt k rest ss).length = ss.length
  | _, _, [] => rfl
  | k, rest, s :: ss => by simp [digGo, digGo_len big salt]
theorem digits_len (cell : Int) (sizes : List Int) (salt : Int) : (digits cell sizes salt).length = sizes.length := digGo_len _ _ _ _ _
theorem digGo_lt (big : Bool) (salt : Int) : ∀ (k : Nat) (rest : Int) (ss : List Int), (∀ s ∈ ss, 0 < s) → ∀ (i : Nat) (s : Int), ss[i]? = some s → ∃ d, (digGo big salt k rest ss)[i]? = some d ∧ 0 ≤ d ∧ d < s
  | _, _, [], _, i, s, h => by simp at h
  | k, rest, s0 :: ss, hp, 0, s, h => by
    simp at h; subst h
    have h0 : 0 < s0 := hp s0 (by simp)
    refine ⟨_, rfl, ?_⟩
    split
    · exact ⟨Int.emod_nonneg _ (by omega), Int.emod_lt_of_pos _ h0⟩
    · exact ⟨Int.emod_nonneg _ (by omega), Int.emod_lt_of_pos _ h0⟩
  | k, rest, s0 :: ss, hp, i + 1, s, h => by
    simp at h
    exact digGo_lt big salt (k + 1) _ ss (fun s hs => hp s (by simp [hs])) i s h
def RDigits (ds : List D) (out : Out) : Prop := ∃ (c : Int) (ss : List Int) (salt : Nat), ds = [.int c, .lst (ss.map .int), .int salt] ∧ (∀ s ∈ ss, 0 < s ∧ s < 1073741824) ∧ salt ≤ 1000 ∧ ss.length ≤ 1000 ∧ out = .new (.lst ((digits c ss salt).map .int))
def dI (ds : List Int) (i : Nat) : Int := ds.getD i 0
theorem dig_get (c : Int) {ss : List Int} (salt : Int) (hp : ∀ s ∈ ss, 0 < s) (i : Nat) {s : Int} (h : ss[i]? = some s) : (digits c ss salt)[i]? = some (dI (digits c ss salt) i) ∧ 0 ≤ dI (digits c ss salt) i ∧ dI (digits c ss salt) i < s := by
  obtain ⟨d, h1, h2, h3⟩ := digGo_lt (decide ((10:Int) ^ 18 ≤ absI c)) salt 0 (absI c) ss hp i s h
  have e : dI (digits c ss salt) i = d := by
    unfold dI; rw [List.getD_eq_getElem?_getD]
    show ((digGo _ _ _ _ _)[i]?).getD 0 = d
    rw [h1]; rfl
  rw [e]; exact ⟨h1, h2, h3⟩
theorem dig_at (c : Int) {ss : List Int} (salt : Int) (hp : ∀ s ∈ ss, 0 < s) (i : Nat) {s : Int} (h : ss[i]? = some s) : ((digits c ss salt).map D.int)[i]? = some (.int (dI (digits c ss salt) i)) := by
  rw [List.getElem?_map, (dig_get c salt hp i h).1]; rfl
end DL
set_option Elab.async false
set_option linter.all false
set_option maxRecDepth 100000
set_option maxHeartbeats 2000000
/-! DLJ: is not True, targets of answers of which a property is told. -/
namespace DL
open PySem PySem.Spec PyProof.Rows L2
section
variable {X : Cx} {ρ ρ' : List Sl} {e tg : Expr} {d : D} {pos : Pos} {D' : DEnds}
theorem dss_eq {body : List Stmt} (ρ' : List Sl) (h : ρ = ρ') (k : DSs X ρ' body D') : DSs X ρ body D' := h ▸ k
theorem op_notB {z : Bool} : OpR X (compareOp .IsNot) (fun x y H Q => y = .bl z ∧ Q (.bl (!decide (x = .bl z))) H) := by
  intro pins s σ H x y v u Q I rx ry h
  obtain ⟨rfl, q⟩ := h
  cases (show u = Value.bool z from ry)
  have fin : ∀ k : Bool, k = (!decide (x = .bl z)) → EP X pins σ Q (.bool k) s := fun k e => by subst e; exact ⟨.bl _, H, I, rfl, q⟩
  cases x with
  | non => cases (show v = Value.none from rx); exact wpAny_pure (fin _ rfl)
  | bl c => cases (show v = Value.bool c from rx); exact wpAny_pure (fin _ (by cases c <;> cases z <;> rfl))
  | int i => obtain ⟨t, rfl⟩ := (show ∃ t, v = Value.int i t from rx); exact wpAny_pure (fin _ rfl)
  | str i => obtain ⟨t, rfl⟩ := (show ∃ t, v = Value.str i t from rx); exact wpAny_pure (fin _ rfl)
  | byt i => obtain ⟨t, rfl⟩ := (show ∃ t, v = Value.bytes i t from rx); exact wpAny_pure (fin _ rfl)
  | flt i => obtain ⟨t, rfl⟩ := (show ∃ t, v = Value.float i t from rx); exact wpAny_pure (fin _ rfl)
  | ref i => cases (show v = Value.ref i from rx); exact wpAny_pure (fin _ rfl)
  | ty i => cases (show v = Value.type i from rx); exact wpAny_pure (fin _ rfl)
theorem c_notB {z : Bool} : CmpD X .IsNot d (.bl z) (!(d.isB z)) := ⟨_, op_notB, fun Z H x y Q r1 r2 k => by
  cases r2
  refine ⟨rfl, ?_⟩
  have e : decide (x = .bl z) = d.isB z := by
    cases r1 with
    | bl c => cases c <;> cases z <;> rfl
    | _ => rfl
  rw [e]; exact k _ _ (Same.refl _) (.bl _)⟩
theorem ds_asgN {M : D → Prop} (he : DEN X ρ e M) (hg : ∀ d, M d → ∃ is ρ', DG X ρ tg d is ρ' ∧ D'.nx ρ') (h1 : swapsWithSole [tg] e pos.line X.env = pure false := by rfl) (h2 : swappedStores [tg] e X.env = pure none := by rfl)
    (h3 : (assignEach [tg] X.env).map (·.2) = [assign tg X.env] := by rfl) : DS X ρ (.Assign [tg] e pos) D' := fun B O σ H H0 De W T A s0 C =>
  (ps_asg pe_se pg_sg h1 h2 h3).ss (he B O σ H _ A fun d hd v H1 s1 r1 => by
    obtain ⟨is, ρ', hg, k⟩ := hg d hd
    exact hg B O σ H1 v _ (A.grow s1) r1 fun σ' A' _ => C.nx _ O _ _ k A' (keep_grow s0 s1))
end
end DL
set_option Elab.async false
set_option linter.all false
set_option maxRecDepth 100000
set_option maxHeartbeats 4000000
namespace K30
open PySem PySem.Spec PyProof.Rows L2 DL
local macro_rules | `(tactic| walk_at "le") => `(tactic| (first | exact trivial | exact ⟨.inl rfl, by walk_at "le"⟩ | exact ⟨.inr ⟨rfl, rfl⟩, by walk_at "le"⟩))
def top (i : Nat) : Stmt := PySem.Challenge.pw_eachitsshare_k30_window_judges_exact.main.body.getD i (.Pass ⟨0, 0, 0, 0⟩)
abbrev s_count_inside : Stmt := top 1
theorem sc_count_inside : FnScope ["windows", "first", "behind", "window"] ["windows", "first", "behind"] (defScope s_count_inside) := ⟨rfl, rfl, rfl, by decide +kernel, rfl, by decide +kernel, by decide +kernel⟩
abbrev s_excess_of : Stmt := top 2
theorem sc_excess_of : FnScope ["windows", "machines", "first", "behind"] ["windows", "machines", "first", "behind"] (defScope s_excess_of) := ⟨rfl, rfl, rfl, by decide +kernel, rfl, by decide +kernel, by decide +kernel⟩
abbrev s_are_ticks : Stmt := top 3
theorem sc_are_ticks : FnScope ["windows", "machines", "ticks", "told", "window", "tick"] ["windows", "machines", "ticks"] (defScope s_are_ticks) := ⟨rfl, rfl, rfl, by decide +kernel, rfl, by decide +kernel, by decide +kernel⟩
abbrev s_shows_placed : Stmt := top 4
theorem sc_shows_placed : FnScope ["windows", "machines", "ticks", "tick"] ["windows", "machines", "ticks"] (defScope s_shows_placed) := ⟨rfl, rfl, rfl, by decide +kernel, rfl, by decide +kernel, by decide +kernel⟩
abbrev s_shows_stretch : Stmt := top 5
theorem sc_shows_stretch : FnScope ["windows", "machines", "first", "behind"] ["windows", "machines", "first", "behind"] (defScope s_shows_stretch) := ⟨rfl, rfl, rfl, by decide +kernel, rfl, by decide +kernel, by decide +kernel⟩
abbrev s_shows_left : Stmt := top 6
theorem sc_shows_left : FnScope ["windows", "machines", "ticks", "stretches", "left", "tick", "before", "first", "behind"] ["windows", "machines", "ticks", "stretches"] (defScope s_shows_left) := ⟨rfl, rfl, rfl, by decide +kernel, rfl, by decide +kernel, by decide +kernel⟩
abbrev s_cell : Stmt := top 8
theorem sc_cell : FnScope ["script", "k"] ["script", "k"] (defScope s_cell) := ⟨rfl, rfl, rfl, by decide +kernel, rfl, by decide +kernel, by decide +kernel⟩
abbrev s_digits : Stmt := top 9
theorem sc_digits : FnScope ["cell", "sizes", "salt", "digits", "rest", "k", "mixed"] ["cell", "sizes", "salt"] (defScope s_digits) := ⟨rfl, rfl, rfl, by decide +kernel, rfl, by decide +kernel, by decide +kernel⟩
abbrev s_inside : Stmt := top 10
theorem sc_inside : FnScope ["windows", "begin", "behind", "window"] ["windows", "begin", "behind"] (defScope s_inside) := ⟨rfl, rfl, rfl, by decide +kernel, rfl, by decide +kernel, by decide +kernel⟩
abbrev s_cluster : Stmt := top 11
theorem sc_cluster : FnScope ["script", "k", "begin", "size", "machines", "extra", "pairs", "j", "digits", "low", "high", "tick"] ["script", "k", "begin", "size", "machines", "extra"] (defScope s_cluster) := ⟨rfl, rfl, rfl, by decide +kernel, rfl, by decide +kernel, by decide +kernel⟩
abbrev s_loose : Stmt := top 12
theorem sc_loose : FnScope ["script", "k", "place", "machines", "digits", "pairs", "j"] ["script", "k", "place", "machines"] (defScope s_loose) := ⟨rfl, rfl, rfl, by decide +kernel, rfl, by decide +kernel, by decide +kernel⟩
abbrev s_built : Stmt := top 13
theorem sc_built : FnScope ["script", "head", "machines", "pairs", "crowded", "full", "end", "k", "digits", "begin", "size", "more", "at"] ["script", "head", "machines"] (defScope s_built) := ⟨rfl, rfl, rfl, by decide +kernel, rfl, by decide +kernel, by decide +kernel⟩
abbrev s_ticks_hold : Stmt := top 14
theorem sc_ticks_hold : FnScope ["windows", "machines", "ticks", "used", "at"] ["windows", "machines", "ticks"] (defScope s_ticks_hold) := ⟨rfl, rfl, rfl, by decide +kernel, rfl, by decide +kernel, by decide +kernel⟩
abbrev s_excess : Stmt := top 15
theorem sc_excess : FnScope ["windows", "machines", "stretch"] ["windows", "machines", "stretch"] (defScope s_excess) := ⟨rfl, rfl, rfl, by decide +kernel, rfl, by decide +kernel, by decide +kernel⟩
abbrev s_holds : Stmt := top 16
theorem sc_holds : FnScope ["windows", "machines", "ticks", "stretches", "total", "end", "stretch", "tick"] ["windows", "machines", "ticks", "stretches"] (defScope s_holds) := ⟨rfl, rfl, rfl, by decide +kernel, rfl, by decide +kernel, by decide +kernel⟩
abbrev s_emptied : Stmt := top 17
theorem sc_emptied : FnScope ["ticks", "many", "told", "tick"] ["ticks", "many"] (defScope s_emptied) := ⟨rfl, rfl, rfl, by decide +kernel, rfl, by decide +kernel, by decide +kernel⟩
abbrev s_entries : Stmt := top 18
theorem sc_entries : FnScope ["windows", "ticks", "digits", "at", "other", "told", "entry", "swapped", "place"] ["windows", "ticks", "digits"] (defScope s_entries) := ⟨rfl, rfl, rfl, by decide +kernel, rfl, by decide +kernel, by decide +kernel⟩
abbrev s_stretches : Stmt := top 19
theorem sc_stretches : FnScope ["crowded", "full", "machines", "ticks", "left", "tick", "told", "stretch", "k", "begin", "end", "other"] ["crowded", "full", "machines", "ticks"] (defScope s_stretches) := ⟨rfl, rfl, rfl, by decide +kernel, rfl, by decide +kernel, by decide +kernel⟩
abbrev s_judged : Stmt := top 20
theorem sc_judged : FnScope ["windows", "machines", "papers", "paper", "handed", "told"] ["windows", "machines", "papers"] (defScope s_judged) := ⟨rfl, rfl, rfl, by decide +kernel, rfl, by decide +kernel, by decide +kernel⟩
abbrev s_placed : Stmt := top 21
theorem sc_placed : FnScope ["windows", "machines", "ticks", "papers", "paper", "handed", "told", "due"] ["windows", "machines", "ticks", "papers"] (defScope s_placed) := ⟨rfl, rfl, rfl, by decide +kernel, rfl, by decide +kernel, by decide +kernel⟩
abbrev s_barred : Stmt := top 22
theorem sc_barred : FnScope ["windows", "machines", "stretches", "digits", "told", "stretch", "begin", "end", "given", "says", "due"] ["windows", "machines", "stretches", "digits"] (defScope s_barred) := ⟨rfl, rfl, rfl, by decide +kernel, rfl, by decide +kernel, by decide +kernel⟩
abbrev s_law : Stmt := top 23
theorem sc_law : FnScope ["script", "head", "machines", "pairs", "crowded", "full", "windows", "pair", "ticks", "digits", "papers", "told", "kept", "placed"] ["script"] (defScope s_law) := ⟨rfl, rfl, rfl, by decide +kernel, rfl, by decide +kernel, by decide +kernel⟩
section
variable {P : Program} {w : World} {K : PySem.W.Frag} {mg : Str → Option Value} {base : Heap}
theorem ok_cell {f : Addr} {fd : FuncData} (F : Fun K "_law_cell" "_law_cell" s_cell f fd) (T : Bn mg) : FnOk P w K mg base CX0 1 f fd ["script", "k"] (spD K RCell) := by
  refine dfn F sc_cell (fun ds out h => ?_) (fun ds out h cdv A outer s H E hr => ?_)
  · obtain ⟨ns, k, rfl, rfl⟩ := h; exact ⟨rfl, nofun⟩
  · obtain ⟨ns, k, rfl, rfl⟩ := h
    refine dss_st (ds_if (dt_cmp c_lt (de_var 1) (de_lenL T.len (de_var 0))) (fun hz => ?_) (fun hz => ?_))
    · have hz : k < ns.length := by simpa using hz
      refine dss_st (ds_ret (de_int1 T.int (de_ixL (de_var 0) (de_var 1) (d := .int (cellN ns k)) (atI_nat (by simp [cellN, hz])))) rfl)
    · have hz : ns.length ≤ k := by simpa using hz
      refine dss_nil (dss_st (ds_ret de_int ?_))
      show D.int 0 = _
      simp [cellN, hz]
theorem ok_digits {f : Addr} {fd : FuncData} (F : Fun K "_law_digits" "_law_digits" s_digits f fd) (T : Bn mg) : FnOk P w K mg base CX0 1 f fd ["cell", "sizes", "salt"] (spD K RDigits) := by
  refine dfn F sc_digits (fun ds out h => ?_) (fun ds out h cdv A outer s H E hr => ?_)
  · obtain ⟨_, _, _, rfl, _, _, _, rfl⟩ := h; exact ⟨rfl, nofun⟩
  · obtain ⟨c, ss, salt, rfl, hs, hsalt, hlen, rfl⟩ := h
    refine dss_st (ds_own 3 sc_digits.nd (df_lst da_nil) ?_)
    refine dss_st (ds_set 4 sc_digits.nd (de_abs T.abs (de_var 0)) ?_)
    refine dss_st (ds_range1 5 ss.length (fun k ρ => ∃ (acc : List Int) (rest : Int), acc.length = k ∧ 0 ≤ rest ∧ rest ≤ absI c ∧ digits c ss salt = acc ++ digGo (decide ((10:Int) ^ 18 ≤ absI c)) salt k rest (ss.drop k) ∧
      ρ = [.dat (.int c), .dat (.lst (ss.map .int)), .dat (.int salt), .own (.lst (acc.map .int)), .dat (.int rest), .emp, .emp])
      sc_digits.nd T.range PassesOwn.never rfl (de_lenL T.len (de_var 1)) (by simp) (by omega) ?_ ?_ ?_)
    · refine Up.intro ⟨[], absI c, rfl, ?_, Int.le_refl _, ?_, rfl⟩ (by walk_at "le")
      · unfold absI; split <;> omega
      · simp [digits]
    · rintro k ρ' hk ⟨acc, rest, hacc, hr0, hrc, heq, rfl⟩
      refine ⟨(by intro m h; cases h), ?_⟩
      obtain ⟨s0, hs0⟩ : ∃ s0, ss[k]? = some s0 := ⟨_, List.getElem?_eq_getElem hk⟩
      have hpos := hs s0 (List.mem_of_getElem? hs0)
      have hdrop : ss.drop k = s0 :: ss.drop (k + 1) := by
        rw [List.drop_eq_getElem_cons hk]
        rw [List.getElem?_eq_getElem hk] at hs0; cases hs0; rfl
      have hix : atI (ss.map D.int) (k : Int) = some (.int s0) := atI_nat (by simp [hs0])
      refine dss_st (ds_if (dt_cmp c_ge (de_abs T.abs (de_var 0)) (de_pow de_int de_int ⟨by decide, by decide, by decide⟩)) (fun hz => ?_) (fun hz => ?_))
      · have hz : (10:Int) ^ 18 ≤ absI c := of_decide_eq_true hz
        refine dss_st (ds_append 3 (de_mod (de_int1 T.int (de_var 4)) (de_ixL (de_var 1) (de_var 5) hix) hpos.1) ?_ ?_)
        · rw [List.length_map, hacc]; rw [sizeLine_eq]; omega
        refine dss_st (ds_set 4 sc_digits.nd (de_fdiv (de_var 4) (de_ixL (de_var 1) (de_var 5) hix) hpos) ?_)
        refine dss_nil (dss_nil (Up.intro ⟨acc ++ [rest % s0], rest / s0, ?_, ?_, ?_, ?_, rfl⟩ (by simp only [List.map_append]; walk_at "le")))
        · simp [hacc]
        · exact Int.ediv_nonneg hr0 (by omega)
        · exact Int.le_trans (Int.ediv_le_self _ hr0) hrc
        · rw [heq, hdrop, decide_eq_true hz]; simp [digGo]
      · have hz : ¬ (10:Int) ^ 18 ≤ absI c := of_decide_eq_false hz
        have hb : rest < 10 ^ 18 := by omega
        refine dss_st (ds_set 6 sc_digits.nd (de_mod (de_int1 T.int (de_add (de_mul (de_add (de_add (de_var 4) (de_mul de_int (de_var 2) (.inl (by decide)))) de_int) de_int (.inr (by decide))) (de_mul (de_var 5) de_int (.inr (by decide))))) de_int (by decide)) ?_)
        refine dss_st (ds_set 6 sc_digits.nd (de_mod (de_int1 T.int (de_add (de_add (de_mul (de_var 6) (de_add de_int (de_mod (de_int1 T.int (de_var 6)) de_int (by decide))) ?_) (de_mul (de_var 2) de_int (.inr (by decide)))) (de_var 5))) de_int (by decide)) ?_)
        · have h1 := Int.emod_nonneg ((rest + 7 * (salt:Int) + 1) * 48271 + (k:Int) * 69621) (b := 2147483647) (by decide)
          have h2 := Int.emod_lt_of_pos ((rest + 7 * (salt:Int) + 1) * 48271 + (k:Int) * 69621) (b := 2147483647) (by decide)
          left; omega
        refine dss_st (ds_append 3 (de_mod (de_int1 T.int (de_fdiv (de_var 6) de_int (by decide))) (de_ixL (de_var 1) (de_var 5) hix) hpos.1) ?_ ?_)
        · rw [List.length_map, hacc]; rw [sizeLine_eq]; omega
        refine dss_nil (dss_nil (Up.intro ⟨acc ++ [(mix2 (mix1 rest salt k) salt k / 64) % s0], rest, ?_, hr0, hrc, ?_, rfl⟩ (by simp only [List.map_append, mix1, mix2]; walk_at "le")))
        · simp [hacc]
        · rw [heq, hdrop, decide_eq_false hz]; simp [digGo]
    · rintro ρ' ⟨acc, rest, hacc, _, _, heq, rfl⟩
      refine dss_st (ds_retOwn 3 (m := .lst (acc.map .int)) ?_)
      show _ = _
      rw [heq, List.drop_of_length_le (Nat.le_refl _)]
      simp [digGo]
end
end K30
set_option Elab.async false
set_option linter.all false
set_option maxRecDepth 100000
set_option maxHeartbeats 1000000
/-! K30b: the plain law: placings, stretches, counts. -/
namespace K30
abbrev W := Int × Int
abbrev Pr := W × Option Int
def inS (f b : Int) (w : W) : Bool := decide (f ≤ w.1) && decide (w.2 ≤ b)
def cntIn (ws : List W) (f b : Int) : Nat := (ws.filter (inS f b)).length
def exc (ws : List W) (m : Nat) (f b : Int) : Int := (cntIn ws f b : Int) - (m : Int) * (b - f)
def isT (t : Int) (o : Option Int) : Bool := o == some t
def cntT (ts : List (Option Int)) (t : Int) : Nat := (ts.filter (isT t)).length
def nN (ts : List (Option Int)) : Nat := (ts.filter Option.isNone).length
structure AreT (ws : List W) (m : Nat) (ts : List (Option Int)) : Prop where
  len : ws.length = ts.length
  win : ∀ (i : Nat) w t, ws[i]? = some w → ts[i]? = some (some t) → w.1 ≤ t ∧ t < w.2
  cnt : ∀ t, cntT ts t ≤ m
noncomputable def areB (ws : List W) (m : Nat) (ts : List (Option Int)) : Bool := @decide (AreT ws m ts) (Classical.propDecidable _)
theorem areB_t {ws : List W} {m : Nat} {ts : List (Option Int)} (h : AreT ws m ts) : areB ws m ts = true := by unfold areB; exact @decide_eq_true _ (Classical.propDecidable _) h
theorem areB_f {ws : List W} {m : Nat} {ts : List (Option Int)} (h : ¬ AreT ws m ts) : areB ws m ts = false := by unfold areB; exact @decide_eq_false _ (Classical.propDecidable _) h
def chainB (ws : List W) (m : Nat) : Int → List W → Bool
  | _, [] => true
  | e, s :: r => (decide (e ≤ s.1) && decide (s.1 < s.2) && decide (0 < exc ws m s.1 s.2)) && chainB ws m s.2 r
def sumE (ws : List W) (m : Nat) : List W → Int
  | [] => 0
  | s :: r => exc ws m s.1 s.2 + sumE ws m r
noncomputable def leftB (ws : List W) (m : Nat) (ts : List (Option Int)) (st : List W) : Bool := areB ws m ts && (chainB ws m 0 st && decide (sumE ws m st = (nN ts : Int)))
noncomputable def placedB (ws : List W) (m : Nat) (ts : List (Option Int)) : Bool := areB ws m ts && ts.all Option.isSome
def strB (ws : List W) (m : Nat) (f b : Int) : Bool := (decide (0 ≤ f) && decide (f < b)) && decide (0 < exc ws m f b)
/-! ### sums, chains -/
theorem sumE_app (ws : List W) (m : Nat) : ∀ (a b : List W), sumE ws m (a ++ b) = sumE ws m a + sumE ws m b
  | [], b => by simp [sumE]
  | s :: a, b => by simp only [List.cons_append, sumE, sumE_app ws m a b]; omega
theorem take_succ' {α : Type} {xs : List α} {k : Nat} {x : α} (h : xs[k]? = some x) : xs.take (k + 1) = xs.take k ++ [x] := by
  have hi : k < xs.length := (List.getElem?_eq_some_iff.mp h).1
  rw [List.take_succ_eq_append_getElem hi]
  rw [List.getElem?_eq_getElem hi] at h
  cases h; rfl
theorem drop_cons' {α : Type} {xs : List α} {k : Nat} {x : α} (h : xs[k]? = some x) : xs.drop k = x :: xs.drop (k + 1) := by
  have hi : k < xs.length := (List.getElem?_eq_some_iff.mp h).1
  rw [List.drop_eq_getElem_cons hi]
  rw [List.getElem?_eq_getElem hi] at h
  cases h; rfl
theorem chain_of (ws : List W) (m : Nat) : ∀ (e : Int) (st : List W), st.Pairwise (fun a b => a.2 ≤ b.1) → (∀ s ∈ st, e ≤ s.1 ∧ s.1 < s.2 ∧ 0 < exc ws m s.1 s.2) → chainB ws m e st = true
  | _, [], _, _ => rfl
  | e, s :: r, h1, h2 => by
    obtain ⟨a, b, c⟩ := h2 s List.mem_cons_self
    have hp := List.pairwise_cons.mp h1
    simp only [chainB, decide_eq_true a, decide_eq_true b, decide_eq_true c, Bool.true_and]
    exact chain_of ws m s.2 r hp.2 fun q hq => ⟨hp.1 q hq, (h2 q (List.mem_cons_of_mem _ hq)).2⟩
/-! ### sorted ticks: none too often -/
theorem head_cnt : ∀ (l : List Int) (x : Int) (j : Nat), l.Pairwise (· ≤ ·) → (∀ y ∈ l, x ≤ y) → (l[j]? = some x ↔ j < l.count x)
  | [], x, j, _, _ => by simp
  | y :: s, x, j, h, hx => by
    have hp := List.pairwise_cons.mp h
    by_cases e : y = x
    · subst e
      rw [List.count_cons_self]
      cases j with
      | zero => simp
      | succ j =>
        rw [List.getElem?_cons_succ]
        rw [head_cnt s y j hp.2 hp.1]
        omega
    · have hlt : x < y := by have := hx y List.mem_cons_self; omega
      have hno : x ∉ y :: s := by
        intro hm
        rcases List.mem_cons.mp hm with q | q
        · omega
        · have := hp.1 x q; omega
      rw [List.count_eq_zero_of_not_mem hno]
      constructor
      · intro q; exact absurd (List.mem_of_getElem? q) hno
      · intro q; omega
def Apart (m : Nat) (s : List Int) : Prop := ∀ (j : Nat) x, s[j]? = some x → s[j + m]? ≠ some x
theorem apart_iff (m : Nat) : ∀ s : List Int, s.Pairwise (· ≤ ·) → (Apart m s ↔ ∀ t, s.count t ≤ m) := by
  intro s h
  constructor
  · intro hA t
    induction s with
    | nil => simp
    | cons y s ih =>
      have hp := List.pairwise_cons.mp h
      have hA' : Apart m s := fun j x h1 h2 => hA (j + 1) x (by simpa using h1) (by rw [show j + 1 + m = (j + m) + 1 by omega]; simpa using h2)
      have h0 := ih hp.2 hA'
      by_cases e : y = t
      · subst e
        rw [List.count_cons_self]
        by_cases q : s.count y = m
        · exfalso
          have hall : ∀ z ∈ y :: s, y ≤ z := fun z hz => by
            rcases List.mem_cons.mp hz with q | q
            · omega
            · exact hp.1 z q
          have := (head_cnt (y :: s) y m h hall).mpr (by rw [List.count_cons_self]; omega)
          exact hA 0 y rfl (by rw [Nat.zero_add]; exact this)
        · omega
      · rw [List.count_cons_of_ne (by simpa using e)]; exact h0
  · intro hc j
    induction s generalizing j with
    | nil => intro x h1; simp at h1
    | cons y s ih =>
      have hp := List.pairwise_cons.mp h
      intro x h1 h2
      cases j with
      | zero =>
        simp at h1; subst h1
        rw [Nat.zero_add] at h2
        have hall : ∀ z ∈ y :: s, y ≤ z := fun z hz => by
          rcases List.mem_cons.mp hz with q | q
          · omega
          · exact hp.1 z q
        have := (head_cnt (y :: s) y m h hall).mp h2
        have := hc y
        omega
      | succ j =>
        have hc' : ∀ t, s.count t ≤ m := fun t => Nat.le_trans (List.count_le_count_cons) (hc t)
        refine ih hp.2 hc' j x (by simpa using h1) ?_
        rw [show j + 1 + m = (j + m) + 1 by omega] at h2
        simpa using h2
/-- the ticks that are told -/
def somes (ts : List (Option Int)) : List Int := ts.filterMap id
theorem cntT_somes (t : Int) : ∀ ts : List (Option Int), cntT ts t = (somes ts).count t
  | [] => rfl
  | none :: r => by simp only [cntT, somes, isT]; exact cntT_somes t r
  | some x :: r => by
    have ih := cntT_somes t r
    unfold cntT somes at ih ⊢
    rw [List.filterMap_cons]
    by_cases e : x = t
    · rw [List.filter_cons_of_pos (by simp [isT, e])]
      subst e
      simp only [id, List.length_cons, List.count_cons_self, ih]
    · rw [List.filter_cons_of_neg (by simp [isT, e])]
      simp only [id]
      rw [List.count_cons_of_ne (by simpa using e)]
      exact ih
theorem cntT_app (a b : List (Option Int)) (t : Int) : cntT (a ++ b) t = cntT a t + cntT b t := by unfold cntT; rw [List.filter_append, List.length_append]
theorem cntIn_app (a b : List W) (f e : Int) : cntIn (a ++ b) f e = cntIn a f e + cntIn b f e := by unfold cntIn; rw [List.filter_append, List.length_append]
theorem nN_app (a b : List (Option Int)) : nN (a ++ b) = nN a + nN b := by unfold nN; rw [List.filter_append, List.length_append]
theorem cntT_perm {a b : List (Option Int)} (h : a.Perm b) (t : Int) : cntT a t = cntT b t := (h.filter _).length_eq
theorem cntIn_perm {a b : List W} (h : a.Perm b) (f e : Int) : cntIn a f e = cntIn b f e := (h.filter _).length_eq
theorem nN_perm {a b : List (Option Int)} (h : a.Perm b) : nN a = nN b := (h.filter _).length_eq
theorem cntIn_zero {ws : List W} {f e : Int} (h : ∀ w ∈ ws, ¬ (f ≤ w.1 ∧ w.2 ≤ e)) : cntIn ws f e = 0 := by
  unfold cntIn
  rw [List.length_eq_zero_iff, List.filter_eq_nil_iff]
  intro w hw q
  unfold inS at q
  simp only [Bool.and_eq_true, decide_eq_true_eq] at q
  exact h w hw q
theorem cntIn_all {ws : List W} {f e : Int} (h : ∀ w ∈ ws, f ≤ w.1 ∧ w.2 ≤ e) : cntIn ws f e = ws.length := by
  unfold cntIn
  rw [List.filter_eq_self.mpr]
  intro w hw
  unfold inS
  simp [h w hw]
theorem cntT_none {ts : List (Option Int)} {t : Int} (h : ∀ o ∈ ts, o ≠ some t) : cntT ts t = 0 := by
  unfold cntT
  rw [List.length_eq_zero_iff, List.filter_eq_nil_iff]
  intro o ho q
  exact h o ho (by simpa [isT] using q)
/-! ### what a cluster is -/
structure Clu (ps : List Pr) (m : Nat) (b : Int) (size extra : Nat) : Prop where
  len : ps.length = m * size + extra
  ins : ∀ p ∈ ps, b ≤ p.1.1 ∧ p.1.1 < p.1.2 ∧ p.1.2 ≤ b + (size : Int)
  tk : ∀ p ∈ ps, ∀ t, p.2 = some t → p.1.1 ≤ t ∧ t < p.1.2
  cnt : ∀ t, cntT (ps.map (·.2)) t ≤ m
  non : nN (ps.map (·.2)) = extra
def tkOf (m : Nat) (b : Int) (size : Nat) (j : Nat) : Option Int := if j < m * size then some (b + ((j / m : Nat) : Int)) else none
theorem div_iff {m j q : Nat} (hm : 0 < m) : j / m = q ↔ q * m ≤ j ∧ j < q * m + m := by
  rw [Nat.div_eq_iff hm]
  rw [Nat.mul_comm q m]
  omega
theorem cnt_div {m : Nat} (hm : 0 < m) (q : Nat) : ∀ n, ((List.range n).filter fun j => decide (j / m = q)).length = min n (q * m + m) - min n (q * m)
  | 0 => by simp
  | n + 1 => by
    rw [List.range_succ, List.filter_append, List.length_append, cnt_div hm q n]
    by_cases h : n / m = q
    · have := (div_iff hm).mp h
      simp only [List.filter_cons, List.filter_nil, decide_eq_true h, if_true, List.length_singleton]
      omega
    · have h' : ¬ (q * m ≤ n ∧ n < q * m + m) := fun z => h ((div_iff hm).mpr z)
      simp only [List.filter_cons, List.filter_nil, decide_eq_false h, Bool.false_eq_true, if_false, List.length_nil]
      omega
theorem tk_cnt {m : Nat} (hm : 0 < m) (b : Int) (size : Nat) (t : Int) (n : Nat) : cntT ((List.range n).map (tkOf m b size)) t ≤ m := by
  have h1 : cntT ((List.range n).map (tkOf m b size)) t ≤ ((List.range n).filter fun j => decide (j / m = (t - b).toNat)).length := by
    unfold cntT
    rw [List.filter_map, List.length_map, ← List.countP_eq_length_filter, ← List.countP_eq_length_filter]
    refine List.countP_mono_left fun j _ hj => ?_
    simp only [Function.comp, isT, tkOf] at hj
    split at hj
    · have h2 := eq_of_beq hj
      injection h2 with h2
      generalize j / m = q at h2 ⊢
      exact decide_eq_true (by omega)
    · simp at hj
  rw [cnt_div hm] at h1
  omega
theorem tk_non {m : Nat} (b : Int) (size : Nat) : ∀ n, nN ((List.range n).map (tkOf m b size)) = n - m * size
  | 0 => by simp [nN]
  | n + 1 => by
    rw [List.range_succ, List.map_append, nN_app, tk_non b size n]
    simp only [List.map_cons, List.map_nil, nN, tkOf]
    by_cases h : n < m * size
    · rw [if_pos h]; simp; omega
    · rw [if_neg h]; simp; omega
/-! ### what is built -/
structure Bui (ps : List Pr) (cr : List W) (m : Nat) (e : Int) : Prop where
  ne : ∀ p ∈ ps, p.1.1 < p.1.2 ∧ p.1.1 < e
  tk : ∀ p ∈ ps, ∀ t, p.2 = some t → p.1.1 ≤ t ∧ t < p.1.2 ∧ t < e
  cnt : ∀ t, cntT (ps.map (·.2)) t ≤ m
  pw : cr.Pairwise (fun a b => a.2 ≤ b.1)
  cr0 : ∀ s ∈ cr, 0 ≤ s.1 ∧ s.1 < s.2 ∧ s.2 ≤ e ∧ 0 < exc (ps.map (·.1)) m s.1 s.2
  sum : sumE (ps.map (·.1)) m cr = (nN (ps.map (·.2)) : Int)
theorem Bui.left {ps : List Pr} {cr : List W} {m : Nat} {e : Int} (h : Bui ps cr m e) : leftB (ps.map (·.1)) m (ps.map (·.2)) cr = true := by
  have hA : AreT (ps.map (·.1)) m (ps.map (·.2)) := by
    refine ⟨by simp, fun i w t h1 h2 => ?_, h.cnt⟩
    rw [List.getElem?_map] at h1 h2
    cases hp : ps[i]? with
    | none => rw [hp] at h1; cases h1
    | some p =>
      rw [hp] at h1 h2
      have e1 : p.1 = w := by simpa using h1
      have e2 : p.2 = some t := by simpa using h2
      subst e1
      have := h.tk p (List.mem_of_getElem? hp) t e2
      exact ⟨this.1, this.2.1⟩
  unfold leftB
  rw [areB_t hA, chain_of _ _ 0 cr h.pw fun s hs => ⟨(h.cr0 s hs).1, (h.cr0 s hs).2.1, (h.cr0 s hs).2.2.2⟩, decide_eq_true h.sum]
  rfl
def keepP (ps : List Pr) : List Pr := ps.filter fun p => p.2.isSome
theorem Bui.placed {ps : List Pr} {cr : List W} {m : Nat} {e : Int} (h : Bui ps cr m e) : placedB ((keepP ps).map (·.1)) m ((keepP ps).map (·.2)) = true := by
  have hA : AreT ((keepP ps).map (·.1)) m ((keepP ps).map (·.2)) := by
    refine ⟨by simp, fun i w t h1 h2 => ?_, fun t => ?_⟩
    · rw [List.getElem?_map] at h1 h2
      cases hp : (keepP ps)[i]? with
      | none => rw [hp] at h1; cases h1
      | some p =>
        rw [hp] at h1 h2
        have e1 : p.1 = w := by simpa using h1
        have e2 : p.2 = some t := by simpa using h2
        subst e1
        have hm := (List.mem_filter.mp (List.mem_of_getElem? hp)).1
        have := h.tk p hm t e2
        exact ⟨this.1, this.2.1⟩
    · refine Nat.le_trans ?_ (h.cnt t)
      unfold cntT
      exact (((List.filter_sublist (p := fun p : Pr => p.2.isSome) (l := ps)).map (fun p : Pr => p.2)).filter (isT t)).length_le
  unfold placedB
  rw [areB_t hA, Bool.true_and, List.all_eq_true]
  intro o ho
  obtain ⟨p, hp, rfl⟩ := List.mem_map.mp ho
  exact (List.mem_filter.mp hp).2
theorem sumE_congr {ws ws' : List W} {m : Nat} : ∀ {cr : List W}, (∀ s ∈ cr, exc ws m s.1 s.2 = exc ws' m s.1 s.2) → sumE ws m cr = sumE ws' m cr
  | [], _ => rfl
  | s :: r, h => by
    simp only [sumE]
    rw [h s List.mem_cons_self, sumE_congr fun q hq => h q (List.mem_cons_of_mem _ hq)]
/-- one cluster more, and windows at the tick ahead of it -/
theorem Bui.step {ps more lo : List Pr} {cr : List W} {m : Nat} {e b : Int} {size extra : Nat} (h : Bui ps cr m e) (he : 0 ≤ e) (hm : 0 < m) (hs : 0 < size) (C : Clu more m b size extra) (hb : e ≤ b)
    (hl : ∀ p ∈ lo, e ≤ b - 1 ∧ p.1.1 ≤ b - 1 ∧ b - 1 < p.1.2 ∧ p.2 = some (b - 1)) (hll : lo.length ≤ m) {ps' : List Pr} (hp : ps'.Perm (ps ++ (more ++ lo))) :
    Bui ps' (if 0 < extra then cr ++ [(b, b + (size : Int))] else cr) m (b + (size : Int)) := by
  have hsz : (0 : Int) < (size : Int) := by omega
  have mem : ∀ {p : Pr}, p ∈ ps' → p ∈ ps ∨ p ∈ more ∨ p ∈ lo := fun {p} q => by
    have := (hp.mem_iff (a := p)).mp q
    simpa using this
  have hw : (ps'.map (·.1)).Perm (ps.map (·.1) ++ (more.map (·.1) ++ lo.map (·.1))) := by rw [← List.map_append, ← List.map_append]; exact hp.map _
  have ht : (ps'.map (·.2)).Perm (ps.map (·.2) ++ (more.map (·.2) ++ lo.map (·.2))) := by rw [← List.map_append, ← List.map_append]; exact hp.map _
  have hlo0 : nN (lo.map (·.2)) = 0 := by
    unfold nN
    rw [List.length_eq_zero_iff, List.filter_eq_nil_iff]
    intro o ho
    obtain ⟨p, hp, rfl⟩ := List.mem_map.mp ho
    rw [(hl p hp).2.2.2]; simp
  have hnn : nN (ps'.map (·.2)) = nN (ps.map (·.2)) + extra := by
    rw [nN_perm ht, nN_app, nN_app, C.non, hlo0, Nat.add_zero]
  have old : ∀ s ∈ cr, exc (ps'.map (·.1)) m s.1 s.2 = exc (ps.map (·.1)) m s.1 s.2 := by
    intro s hs'
    have hse := (h.cr0 s hs').2.2.1
    unfold exc
    rw [cntIn_perm hw, cntIn_app, cntIn_app, cntIn_zero (ws := more.map (·.1)), cntIn_zero (ws := lo.map (·.1))]
    · rfl
    · intro w hw q
      obtain ⟨p, hp, rfl⟩ := List.mem_map.mp hw
      have := hl p hp; omega
    · intro w hw q
      obtain ⟨p, hp, rfl⟩ := List.mem_map.mp hw
      have := C.ins p hp; omega
  have new : exc (ps'.map (·.1)) m b (b + (size : Int)) = (extra : Int) := by
    unfold exc
    rw [cntIn_perm hw, cntIn_app, cntIn_app, cntIn_zero (ws := ps.map (·.1)), cntIn_zero (ws := lo.map (·.1)), cntIn_all (ws := more.map (·.1)), List.length_map, C.len]
    · have : (b + (size : Int) - b) = (size : Int) := by omega
      rw [this]
      push_cast
      omega
    · intro w hw
      obtain ⟨p, hp, rfl⟩ := List.mem_map.mp hw
      have := C.ins p hp; omega
    · intro w hw q
      obtain ⟨p, hp, rfl⟩ := List.mem_map.mp hw
      have := hl p hp; omega
    · intro w hw q
      obtain ⟨p, hp, rfl⟩ := List.mem_map.mp hw
      have := (h.ne p hp).2; omega
  have scr : ∀ s ∈ (if 0 < extra then cr ++ [(b, b + (size : Int))] else cr), s ∈ cr ∨ (0 < extra ∧ s = (b, b + (size : Int))) := by
    intro s q
    split at q
    · rcases List.mem_append.mp q with z | z
      · exact .inl z
      · exact .inr ⟨by assumption, List.mem_singleton.mp z⟩
    · exact .inl q
  refine ⟨fun p hp => ?_, fun p hp t e2 => ?_, fun t => ?_, ?_, fun s hs' => ?_, ?_⟩
  · rcases mem hp with q | q | q
    · have := h.ne p q; omega
    · have := C.ins p q; omega
    · have := hl p q; omega
  · rcases mem hp with q | q | q
    · have := h.tk p q t e2; omega
    · have := C.tk p q t e2; have := C.ins p q; omega
    · have := hl p q
      rw [this.2.2.2] at e2; cases e2
      omega
  · rw [cntT_perm ht, cntT_app, cntT_app]
    by_cases h1 : t < b - 1
    · rw [cntT_none (ts := more.map (·.2)), cntT_none (ts := lo.map (·.2))]
      · have := h.cnt t; omega
      · intro o ho q
        obtain ⟨p, hp, rfl⟩ := List.mem_map.mp ho
        have := hl p hp; rw [this.2.2.2] at q; cases q; omega
      · intro o ho q
        obtain ⟨p, hp, rfl⟩ := List.mem_map.mp ho
        have := C.tk p hp t q; have := C.ins p hp; omega
    · by_cases h2 : t = b - 1
      · subst h2
        rw [cntT_none (ts := more.map (·.2))]
        · by_cases hlz : lo = []
          · subst hlz; have := h.cnt (b - 1); simp only [List.map_nil, cntT, List.filter_nil, List.length_nil] at *; omega
          · obtain ⟨p0, hp0⟩ := List.exists_mem_of_ne_nil _ hlz
            have he0 := (hl p0 hp0).1
            rw [cntT_none (ts := ps.map (·.2))]
            · have : cntT (lo.map (·.2)) (b - 1) ≤ (lo.map (·.2)).length := List.length_filter_le _ _
              rw [List.length_map] at this; omega
            · intro o ho q
              obtain ⟨p, hp, rfl⟩ := List.mem_map.mp ho
              have := h.tk p hp _ q; omega
        · intro o ho q
          obtain ⟨p, hp, rfl⟩ := List.mem_map.mp ho
          have := C.tk p hp _ q; have := C.ins p hp; omega
      · rw [cntT_none (ts := ps.map (·.2)), cntT_none (ts := lo.map (·.2))]
        · have := C.cnt t; omega
        · intro o ho q
          obtain ⟨p, hp, rfl⟩ := List.mem_map.mp ho
          have := hl p hp; rw [this.2.2.2] at q; cases q; omega
        · intro o ho q
          obtain ⟨p, hp, rfl⟩ := List.mem_map.mp ho
          have := h.tk p hp _ q; omega
  · split
    · rw [List.pairwise_append]
      refine ⟨h.pw, List.pairwise_singleton _ _, fun a ha c hc => ?_⟩
      rw [List.mem_singleton.mp hc]
      have := h.cr0 a ha
      show a.2 ≤ b
      omega
    · exact h.pw
  · rcases scr s hs' with q | ⟨q1, q2⟩
    · have := h.cr0 s q
      rw [old s q]; omega
    · subst q2
      rw [new]
      refine ⟨?_, ?_, ?_, ?_⟩
      · show 0 ≤ b; omega
      · show b < b + (size : Int); omega
      · show b + (size : Int) ≤ b + (size : Int); omega
      · omega
  · rw [hnn]
    split
    · rw [sumE_app, sumE_congr old, h.sum]
      simp only [sumE]
      rw [new]; push_cast; omega
    · rw [sumE_congr old, h.sum]; omega
theorem bui0 (m : Nat) (e : Int) : Bui [] [] m e :=
  ⟨(by intro p h; cases h), (by intro p h; cases h), fun t => Nat.zero_le _, List.Pairwise.nil, (by intro p h; cases h), rfl⟩
end K30
set_option Elab.async false
set_option linter.all false
set_option maxRecDepth 100000
set_option maxHeartbeats 4000000
namespace K30
open PySem PySem.Spec PyProof.Rows L2 DL
local macro_rules | `(tactic| walk_at "le") => `(tactic| (first | exact trivial | exact ⟨.inl rfl, by walk_at "le"⟩ | exact ⟨.inr ⟨rfl, rfl⟩, by walk_at "le"⟩))
def tD : Option Int → D
  | none => .non
  | some t => .int t
abbrev wsD (ws : List W) : D := .lst (ws.map pD)
abbrev tsD (ts : List (Option Int)) : D := .lst (ts.map tD)
def RCount (ds : List D) (out : Out) : Prop := ∃ (ws : List W) (f b : Int), ds = [wsD ws, .int f, .int b] ∧ out = .val (.int (cntIn ws f b))
def RExcess (ds : List D) (out : Out) : Prop := ∃ (ws : List W) (m : Nat) (f b : Int), ds = [wsD ws, .int m, .int f, .int b] ∧ m ≤ 4 ∧ out = .val (.int (exc ws m f b))
def RAre (ds : List D) (out : Out) : Prop := ∃ (ws : List W) (m : Nat) (ts : List (Option Int)), ds = [wsD ws, .int m, tsD ts] ∧ m ≤ 4 ∧ out = .val (.bl (areB ws m ts))
def RPlaced (ds : List D) (out : Out) : Prop := ∃ (ws : List W) (m : Nat) (ts : List (Option Int)), ds = [wsD ws, .int m, tsD ts] ∧ m ≤ 4 ∧ out = .val (.bl (placedB ws m ts))
def RStr (ds : List D) (out : Out) : Prop := ∃ (ws : List W) (m : Nat) (f b : Int), ds = [wsD ws, .int m, .int f, .int b] ∧ m ≤ 4 ∧ out = .val (.bl (strB ws m f b))
def RLeft (ds : List D) (out : Out) : Prop := ∃ (ws : List W) (m : Nat) (ts : List (Option Int)) (st : List W), ds = [wsD ws, .int m, tsD ts, wsD st] ∧ m ≤ 4 ∧ out = .val (.bl (leftB ws m ts st))
theorem cntT_take {ts : List (Option Int)} {k : Nat} {o : Option Int} (h : ts[k]? = some o) (t : Int) : cntT (ts.take (k + 1)) t = cntT (ts.take k) t + (if o = some t then 1 else 0) := by
  rw [take_succ' h, cntT_app]
  congr 1
  unfold cntT isT
  by_cases e : o = some t
  · subst e; simp
  · rw [if_neg e, List.filter_cons_of_neg (by simpa using e)]; rfl
theorem cntT_le_take (ts : List (Option Int)) (k : Nat) (t : Int) : cntT (ts.take k) t ≤ cntT ts t := ((List.take_sublist k ts).filter _).length_le
theorem pd_get {α : Type} {f : α → D} {xs : List α} {k : Nat} {d : D} (h : (xs.map f)[k]? = some d) : ∃ x, xs[k]? = some x ∧ d = f x := by
  rw [List.getElem?_map] at h
  cases e : xs[k]? with
  | none => rw [e] at h; cases h
  | some x => rw [e] at h; cases h; exact ⟨x, rfl, rfl⟩
section
variable {P : Program} {w : World} {K : PySem.W.Frag} {mg : Str → Option Value} {base : Heap}
theorem ok_count_inside {f : Addr} {fd : FuncData} (F : Fun K "count_inside" "count_inside" s_count_inside f fd) (T : Bn mg) : FnOk P w K mg base CX0 1 f fd ["windows", "first", "behind"] (spD K RCount) := by
  refine dfn F sc_count_inside (fun ds out h => ?_) (fun ds out h cdv A outer s H E hr => ?_)
  · obtain ⟨_, _, _, rfl, rfl⟩ := h; exact ⟨rfl, nofun⟩
  · obtain ⟨ws, lo, hi, rfl, rfl⟩ := h
    refine dss_len 0 (fun hsz => ?_)
    rw [List.length_map] at hsz
    refine dss_st (ds_ret (de_lenL T.len (df_lc1 3 (items := ws) (f := pD) (inS lo hi) pD rfl sc_count_inside.nd (di_list (de_var 0)) rfl hsz
      (fun x hx s' H' C cl fp => ⟨dts_one (dw_and (dt_cmp c_le (de_var 1) (de_ixT (de_var 3) de_int)) (fun _ => (dw_and1 (dt_cmp c_le (de_ixT (de_var 3) de_int) (de_var 2))))).dt, fun _ => de_var 3⟩)).de) ?_)
    show D.int _ = D.int _
    rw [List.length_map]; rfl
theorem ok_inside {f : Addr} {fd : FuncData} (F : Fun K "_law_inside" "_law_inside" s_inside f fd) (T : Bn mg) : FnOk P w K mg base CX0 1 f fd ["windows", "begin", "behind"] (spD K RCount) := by
  refine dfn F sc_inside (fun ds out h => ?_) (fun ds out h cdv A outer s H E hr => ?_)
  · obtain ⟨_, _, _, rfl, rfl⟩ := h; exact ⟨rfl, nofun⟩
  · obtain ⟨ws, lo, hi, rfl, rfl⟩ := h
    refine dss_len 0 (fun hsz => ?_)
    rw [List.length_map] at hsz
    refine dss_st (ds_ret (de_lenL T.len (df_lc1 3 (items := ws) (f := pD) (inS lo hi) pD rfl sc_inside.nd (di_list (de_var 0)) rfl hsz
      (fun x hx s' H' C cl fp => ⟨dts_one (dw_and (dt_cmp c_le (de_var 1) (de_ixT (de_var 3) de_int)) (fun _ => (dw_and1 (dt_cmp c_le (de_ixT (de_var 3) de_int) (de_var 2))))).dt, fun _ => de_var 3⟩)).de) ?_)
    show D.int _ = D.int _
    rw [List.length_map]; rfl
theorem ok_excess_of {f : Addr} {fd : FuncData} (F : Fun K "excess_of" "excess_of" s_excess_of f fd) (T : Bn mg) (c_count_inside : Fn P w K mg base CX0 1 "count_inside" ["windows", "first", "behind"] (spD K RCount)) :
    FnOk P w K mg base CX0 2 f fd ["windows", "machines", "first", "behind"] (spD K RExcess) := by
  refine dfn F sc_excess_of (fun ds out h => ?_) (fun ds out h cdv A outer s H E hr => ?_)
  · obtain ⟨_, _, _, _, rfl, _, rfl⟩ := h; exact ⟨rfl, nofun⟩
  · obtain ⟨ws, m, lo, hi, rfl, hm, rfl⟩ := h
    exact dss_st (ds_ret (de_sub (de_callF c_count_inside (hr.mono (by decide)) pass0 (da_cons (de_var 0) (da_cons (de_var 2) (da_cons (de_var 3) da_nil))) ⟨ws, lo, hi, rfl, rfl⟩) (de_mul (de_var 1) (de_sub (de_var 3) (de_var 2)) (.inl (by omega)))) rfl)
def RExcess2 (ds : List D) (out : Out) : Prop := ∃ (ws : List W) (m : Nat) (s : W), ds = [wsD ws, .int m, pD s] ∧ m ≤ 4 ∧ out = .val (.int (exc ws m s.1 s.2))
theorem ok_excess {f : Addr} {fd : FuncData} (F : Fun K "_law_excess" "_law_excess" s_excess f fd) (T : Bn mg) (c_inside : Fn P w K mg base CX0 1 "_law_inside" ["windows", "begin", "behind"] (spD K RCount)) :
    FnOk P w K mg base CX0 2 f fd ["windows", "machines", "stretch"] (spD K RExcess2) := by
  refine dfn F sc_excess (fun ds out h => ?_) (fun ds out h cdv A outer s H E hr => ?_)
  · obtain ⟨_, _, _, rfl, _, rfl⟩ := h; exact ⟨rfl, nofun⟩
  · obtain ⟨ws, m, st, rfl, hm, rfl⟩ := h
    exact dss_st (ds_ret (de_sub (de_callF c_inside (hr.mono (by decide)) pass0 (da_cons (de_var 0) (da_cons (de_ixT (de_var 2) de_int (d := .int st.1)) (da_cons (de_ixT (de_var 2) de_int (d := .int st.2)) da_nil))) ⟨ws, st.1, st.2, rfl, rfl⟩) (de_mul (de_var 1) (de_sub (de_ixT (de_var 2) de_int (d := .int st.2)) (de_ixT (de_var 2) de_int (d := .int st.1))) (.inl (by omega)))) rfl)
theorem ok_are_ticks {f : Addr} {fd : FuncData} (F : Fun K "are_ticks" "are_ticks" s_are_ticks f fd) (T : Bn mg) : FnOk P w K mg base CX0 1 f fd ["windows", "machines", "ticks"] (spD K RAre) := by
  refine dfn F sc_are_ticks (fun ds out h => ?_) (fun ds out h cdv A outer s H E hr => ?_)
  · obtain ⟨_, _, _, rfl, _, rfl⟩ := h; exact ⟨rfl, nofun⟩
  · obtain ⟨ws, m, ts, rfl, hm, rfl⟩ := h
    have hu := roomU0 hr (show 1 ≤ 100 by decide)
    refine dss_st (ds_if (dt_cmp c_ne (de_lenL T.len (de_var 0)) (de_lenL T.len (de_var 2))) (fun hz => ?_) (fun hz => ?_))
    · refine dss_st (ds_ret de_bl ?_)
      show D.bl _ = D.bl _
      rw [areB_f]
      intro q
      have := q.len
      simp at hz
      omega
    have hl : ws.length = ts.length := by simp at hz; omega
    refine dss_nil (dss_len 2 (fun hsz => ?_))
    rw [List.length_map] at hsz
    refine dss_st (ds_own 3 sc_are_ticks.nd df_dict0 ?_)
    refine dss_st (ds_for (fun k ρ => ∃ kvs : List (Key × D), (∀ t : Int, valD kvs (.inl t) = if cntT (ts.take k) t = 0 then none else some (.int (cntT (ts.take k) t))) ∧ kvs.length ≤ k ∧
        (∀ (i : Nat) w t, i < k → ws[i]? = some w → ts[i]? = some (some t) → w.1 ≤ t ∧ t < w.2) ∧ (∀ t, cntT (ts.take k) t ≤ m) ∧ ρ = [.dat (wsD ws), .dat (.int m), .dat (tsD ts), .own (.dic kvs), .emp, .emp])
      PassesOwn.never rfl (di_zip T.zip (de_var 0) (de_var 2)) (Up.intro ⟨[], (by intro t; simp [valD, cntT]), Nat.le_refl _, (by intro i _ _ h; omega), (by intro t; simp [cntT]), rfl⟩ (by walk_at "le")) ?_ ?_)
    · rintro k x ρ' hx ⟨kvs, h1, h2, h3, h4, rfl⟩
      obtain ⟨x0, y0, hx0, hy0, rfl⟩ := zipWith_get hx
      obtain ⟨win, hw, rfl⟩ := pd_get hx0
      obtain ⟨o, ho, rfl⟩ := pd_get hy0
      have hk : k < ts.length := (List.getElem?_eq_some_iff.mp ho).1
      refine ⟨_, _, dg_tup rfl (dgs_cons (dg_name 4 sc_are_ticks.nd) (dgs_cons (dg_name 5 sc_are_ticks.nd) dgs_nil)), ?_⟩
      cases o with
      | none =>
        refine dss_st (ds_ifT ((dt_cmp c_isN (de_var 5) de_non).eq rfl) (dss_st (ds_continue (Up.intro ⟨kvs, ?_, by omega, ?_, ?_, rfl⟩ (by walk_at "le")))))
        · intro t; rw [cntT_take ho]; simpa using h1 t
        · intro i w t hi hw' ht
          by_cases e : i = k
          · subst e; rw [ho] at ht; cases ht
          · exact h3 i w t (by omega) hw' ht
        · intro t; rw [cntT_take ho]; simpa using h4 t
      | some t =>
        refine dss_st (ds_ifF ((dt_cmp c_isN (de_var 5) de_non).eq rfl) (dss_nil ?_))
        have hget : (valD kvs (.inl t)).getD (.int 0) = .int (cntT (ts.take k) t) := by
          rw [h1 t]
          by_cases e : cntT (ts.take k) t = 0
          · rw [if_pos e, e]; rfl
          · rw [if_neg e]; rfl
        refine dss_st (ds_dput (ks := kvs) 3 hu (de_peek (de_add ((de_get2 hu (de_var 3) (de_var 5) de_int).eq hget) de_int)) (de_var 5) (by rw [sizeLine_eq] at *; omega) ?_)
        have hput : valD (putD kvs (.inl t) (.int ((cntT (ts.take k) t : Int) + 1))) (.inl t) = some (.int ((cntT (ts.take k) t : Int) + 1)) := by rw [valD_put, if_pos rfl]
        refine dss_st (ds_if (dt_peek (dw_or (dt_not (dt_chain c_le c_lt (de_ixT (de_var 4) de_int (d := .int win.1)) (de_var 5) (de_ixT (de_var 4) de_int (d := .int win.2)))) (fun _ => dw_or1 (dt_cmp c_gt (de_dix hu (de_var 3) (de_var 5) hput) (de_var 1)))).dt) (fun hz => ?_) (fun hz => ?_))
        · refine dss_st (ds_ret de_bl ?_)
          show D.bl _ = D.bl _
          rw [areB_f]
          intro q
          have q1 := q.win k win t hw ho
          have q2 := q.cnt t
          have q3 := cntT_le_take ts (k + 1) t
          rw [cntT_take ho, if_pos rfl] at q3
          have e1 : decide (win.1 ≤ t) = true := decide_eq_true q1.1
          have e2 : decide (t < win.2) = true := decide_eq_true q1.2
          have e3 : decide ((m : Int) < (cntT (ts.take k) t : Int) + 1) = false := decide_eq_false (by omega)
          rw [e1, e2, e3] at hz
          cases hz
        · simp only [Bool.or_eq_false_iff, Bool.not_eq_false', Bool.and_eq_true, decide_eq_true_eq, decide_eq_false_iff_not] at hz
          refine dss_nil (dss_nil (Up.intro ⟨putD kvs (.inl t) (.int ((cntT (ts.take k) t : Int) + 1)), ?_, ?_, ?_, ?_, rfl⟩ (by walk_at "le")))
          · intro t'
            rw [valD_put, cntT_take ho]
            by_cases e : t' = t
            · subst e
              rw [if_pos rfl, if_pos rfl, if_neg (by omega)]
              push_cast; rfl
            · rw [if_neg (show ¬ (Sum.inl t' : Key) = Sum.inl t from fun z => e (by injection z)), if_neg (show ¬ (some t = some t') from fun z => e (by injection z with z; exact z.symm)), h1 t', Nat.add_zero]
          · exact Nat.le_trans (putD_len _ _ _) (by omega)
          · intro i w' t' hi hw' ht
            by_cases e : i = k
            · subst e; rw [ho] at ht; rw [hw] at hw'; cases ht; cases hw'; exact hz.1
            · exact h3 i w' t' (by omega) hw' ht
          · intro t'
            rw [cntT_take ho]
            by_cases e : t = t'
            · subst e; rw [if_pos rfl]; omega
            · rw [if_neg (by simpa using e)]; exact h4 t'
    · rintro ρ' ⟨kvs, h1, h2, h3, h4, rfl⟩
      rw [List.length_zipWith, List.length_map, List.length_map, hl, Nat.min_self] at h3 h4
      rw [List.take_length] at h4
      refine dss_st (ds_ret de_bl ?_)
      show D.bl _ = D.bl _
      rw [areB_t ⟨hl, fun i w t hw ht => h3 i w t (List.getElem?_eq_some_iff.mp ht).1 hw ht, h4⟩]
theorem ok_shows_placed {f : Addr} {fd : FuncData} (F : Fun K "shows_placed" "shows_placed" s_shows_placed f fd) (T : Bn mg) (c_are_ticks : Fn P w K mg base CX0 1 "are_ticks" ["windows", "machines", "ticks"] (spD K RAre)) :
    FnOk P w K mg base CX0 2 f fd ["windows", "machines", "ticks"] (spD K RPlaced) := by
  refine dfn F sc_shows_placed (fun ds out h => ?_) (fun ds out h cdv A outer s H E hr => ?_)
  · obtain ⟨_, _, _, rfl, _, rfl⟩ := h; exact ⟨rfl, nofun⟩
  · obtain ⟨ws, m, ts, rfl, hm, rfl⟩ := h
    refine dss_len 2 (fun hsz => ?_)
    rw [List.length_map] at hsz
    refine dss_st (ds_ret (de_and (de_callF c_are_ticks (hr.mono (by decide)) pass0 (da_cons (de_var 0) (da_cons (de_var 1) (da_cons (de_var 2) da_nil))) ⟨ws, m, ts, rfl, hm, rfl⟩) (fun _ => de_one (de_all (bs := ts.map Option.isSome) rfl T.all ((df_lc1 3 (items := ts) (f := tD) (fun _ => true) (fun o => .bl (!(tD o).isNon)) rfl sc_shows_placed.nd (di_list (de_var 2)) rfl hsz
      (fun o ho s' H' C cl fp => ⟨dts_nil, fun _ => (de_cmp c_notN (de_var 3) de_non)⟩)).de.eq ?_)))) ?_)
    · show D.lst _ = D.lst _
      rw [List.filter_eq_self.mpr (by simp), List.map_map]
      congr 1
      apply List.map_congr_left
      intro o _
      cases o <;> rfl
    · show D.bl _ = D.bl _
      unfold placedB
      rw [List.all_map]; rfl
theorem ok_shows_stretch {f : Addr} {fd : FuncData} (F : Fun K "shows_stretch" "shows_stretch" s_shows_stretch f fd) (T : Bn mg) (c_excess_of : Fn P w K mg base CX0 2 "excess_of" ["windows", "machines", "first", "behind"] (spD K RExcess)) :
    FnOk P w K mg base CX0 3 f fd ["windows", "machines", "first", "behind"] (spD K RStr) := by
  refine dfn F sc_shows_stretch (fun ds out h => ?_) (fun ds out h cdv A outer s H E hr => ?_)
  · obtain ⟨_, _, _, _, rfl, _, rfl⟩ := h; exact ⟨rfl, nofun⟩
  · obtain ⟨ws, m, lo, hi, rfl, hm, rfl⟩ := h
    exact dss_st (ds_ret (de_and (de_chain c_le c_lt de_int (de_var 2) (de_var 3)) (fun _ => (de_one (de_cmp c_gt (de_callF c_excess_of (hr.mono (by decide)) pass0 (da_cons (de_var 0) (da_cons (de_var 1) (da_cons (de_var 2) (da_cons (de_var 3) da_nil)))) (d := .int (exc ws m lo hi)) ⟨ws, m, lo, hi, rfl, hm, rfl⟩) de_int)))) rfl)
end
end K30
set_option Elab.async false
set_option linter.all false
set_option maxRecDepth 100000
set_option maxHeartbeats 4000000
namespace K30
open PySem PySem.Spec PyProof.Rows L2 DL
local macro_rules | `(tactic| walk_at "le") => `(tactic| (first | exact trivial | exact ⟨.inl rfl, by walk_at "le"⟩ | exact ⟨.inr ⟨rfl, rfl⟩, by walk_at "le"⟩))
theorem nN_list (ts : List (Option Int)) : ((ts.filter fun o => (tD o).isNon).map tD).length = nN ts := by
  rw [List.length_map]
  unfold nN
  congr 1
  apply List.filter_congr
  intro o _
  cases o <;> rfl
theorem take_all' {α : Type} (xs : List α) {f : α → D} : xs.take (xs.map f).length = xs := by rw [List.length_map, List.take_length]
theorem drop_all' {α : Type} (xs : List α) {f : α → D} : xs.drop (xs.map f).length = [] := by rw [List.length_map, List.drop_length]
theorem somes_take {ts : List (Option Int)} {k : Nat} {o : Option Int} (h : ts[k]? = some o) : somes (ts.take (k + 1)) = somes (ts.take k) ++ o.toList := by
  rw [take_succ' h]
  unfold somes
  rw [List.filterMap_append]
  cases o <;> rfl
theorem somes_len (ts : List (Option Int)) : (somes ts).length ≤ ts.length := List.length_filterMap_le _ _
def emptiedL : Int → List (Option Int) → List (Option Int)
  | _, [] => []
  | n, none :: r => none :: emptiedL n r
  | n, some t :: r => if 0 < n then none :: emptiedL (n - 1) r else some t :: emptiedL n r
def REmptied (ds : List D) (out : Out) : Prop := ∃ (ts : List (Option Int)) (n : Int), ds = [tsD ts, .int n] ∧ out = .new (.lst ((emptiedL n ts).map tD))
section
variable {P : Program} {w : World} {K : PySem.W.Frag} {mg : Str → Option Value} {base : Heap}
theorem ok_shows_left {f : Addr} {fd : FuncData} (F : Fun K "shows_left" "shows_left" s_shows_left f fd) (T : Bn mg) (c_are_ticks : Fn P w K mg base CX0 1 "are_ticks" ["windows", "machines", "ticks"] (spD K RAre))
    (c_excess_of : Fn P w K mg base CX0 2 "excess_of" ["windows", "machines", "first", "behind"] (spD K RExcess)) (c_shows_stretch : Fn P w K mg base CX0 3 "shows_stretch" ["windows", "machines", "first", "behind"] (spD K RStr)) :
    FnOk P w K mg base CX0 4 f fd ["windows", "machines", "ticks", "stretches"] (spD K RLeft) := by
  refine dfn F sc_shows_left (fun ds out h => ?_) (fun ds out h cdv A outer s H E hr => ?_)
  · obtain ⟨_, _, _, _, rfl, _, rfl⟩ := h; exact ⟨rfl, nofun⟩
  · obtain ⟨ws, m, ts, st, rfl, hm, rfl⟩ := h
    refine dss_len 2 (fun hsz => ?_)
    rw [List.length_map] at hsz
    refine dss_st (ds_if (dt_not (dt_val (de_callF c_are_ticks (hr.mono (by decide)) pass0 (da_cons (de_var 0) (da_cons (de_var 1) (da_cons (de_var 2) da_nil))) (d := .bl (areB ws m ts)) ⟨ws, m, ts, rfl, hm, rfl⟩))) (fun hz => ?_) (fun hz => ?_))
    · refine dss_st (ds_ret de_bl ?_)
      show D.bl _ = D.bl _
      unfold leftB
      rw [show areB ws m ts = false by simpa using hz]; rfl
    have hA : areB ws m ts = true := by simpa using hz
    refine dss_nil (dss_st (ds_set 4 sc_shows_left.nd ((de_lenL T.len (df_lc1 5 (items := ts) (f := tD) (fun o => (tD o).isNon) tD rfl sc_shows_left.nd (di_list (de_var 2)) rfl hsz
      (fun x hx s' H' C cl fp => ⟨dts_one (dt_cmp c_isN (de_var 5) de_non), fun _ => de_var 5⟩)).de).eq (d' := .int (nN ts : Int)) (congrArg D.int (by rw [nN_list]))) ?_))
    refine dss_st (ds_set 6 sc_shows_left.nd de_int ?_)
    refine dss_st (ds_for (fun k ρ => ∃ bf : Int, 0 ≤ bf ∧ chainB ws m 0 st = chainB ws m bf (st.drop k) ∧ ρ = [.dat (wsD ws), .dat (.int m), .dat (tsD ts), .dat (wsD st), .dat (.int ((nN ts : Int) - sumE ws m (st.take k))), .emp, .dat (.int bf), .emp, .emp])
      PassesOwn.never rfl (di_list (de_var 3)) (Up.intro ⟨0, Int.le_refl _, rfl, rfl⟩ (by simp only [List.take_zero, sumE, Int.sub_zero]; walk_at "le")) ?_ ?_)
    · rintro k x ρ' hx ⟨bf, hb, hc, rfl⟩
      obtain ⟨s0, hs, rfl⟩ := pd_get hx
      refine ⟨_, _, dg_tup rfl (dgs_cons (dg_name 7 sc_shows_left.nd) (dgs_cons (dg_name 8 sc_shows_left.nd) dgs_nil)), ?_⟩
      rw [drop_cons' hs] at hc
      have hsum : sumE ws m (st.take (k + 1)) = sumE ws m (st.take k) + exc ws m s0.1 s0.2 := by rw [take_succ' hs, sumE_app]; simp [sumE]
      refine dss_st (ds_if (dw_or (dt_cmp c_lt (de_var 7) (de_var 6)) (fun _ => (dw_or1 (dt_not (dt_val (de_callF c_shows_stretch (hr.mono (by decide)) pass0 (da_cons (de_var 0) (da_cons (de_var 1) (da_cons (de_var 7) (da_cons (de_var 8) da_nil)))) (d := .bl (strB ws m s0.1 s0.2)) ⟨ws, m, s0.1, s0.2, rfl, hm, rfl⟩)))))).dt (fun hz => ?_) (fun hz => ?_))
      · refine dss_st (ds_ret de_bl ?_)
        show D.bl _ = D.bl _
        unfold leftB
        rw [hA, hc]
        simp only [chainB, strB, Bool.or_eq_true, decide_eq_true_eq, Bool.not_eq_true', Bool.and_eq_false_iff, decide_eq_false_iff_not] at hz ⊢
        have : ¬ (bf ≤ s0.1 ∧ s0.1 < s0.2 ∧ 0 < exc ws m s0.1 s0.2) := by omega
        have h2 : (decide (bf ≤ s0.1) && decide (s0.1 < s0.2) && decide (0 < exc ws m s0.1 s0.2)) = false := by
          cases h : (decide (bf ≤ s0.1) && decide (s0.1 < s0.2) && decide (0 < exc ws m s0.1 s0.2)) with
          | false => rfl
          | true => simp only [Bool.and_eq_true, decide_eq_true_eq] at h; omega
        rw [h2]; simp
      · refine dss_nil ?_
        refine dss_st (ds_set 4 sc_shows_left.nd (de_sub (de_var 4) (de_callF c_excess_of (hr.mono (by decide)) pass0 (da_cons (de_var 0) (da_cons (de_var 1) (da_cons (de_var 7) (da_cons (de_var 8) da_nil)))) (d := .int (exc ws m s0.1 s0.2)) ⟨ws, m, s0.1, s0.2, rfl, hm, rfl⟩)) ?_)
        refine dss_st (ds_set 6 sc_shows_left.nd (de_var 8) ?_)
        simp only [strB, Bool.or_eq_false_iff, decide_eq_false_iff_not, Bool.not_eq_false', Bool.and_eq_true, decide_eq_true_eq] at hz
        refine dss_nil (Up.intro ⟨s0.2, by omega, ?_, rfl⟩ (by rw [hsum, show (nN ts : Int) - sumE ws m (st.take k) - exc ws m s0.1 s0.2 = (nN ts : Int) - (sumE ws m (st.take k) + exc ws m s0.1 s0.2) by omega]; walk_at "le"))
        rw [hc]
        simp only [chainB]
        rw [decide_eq_true (show bf ≤ s0.1 by omega), decide_eq_true (show s0.1 < s0.2 by omega), decide_eq_true (show 0 < exc ws m s0.1 s0.2 by omega)]; rfl
    · rintro ρ' ⟨bf, hb, hc, rfl⟩
      rw [drop_all'] at hc
      rw [take_all']
      refine dss_st (ds_ret (de_cmp c_eq (de_var 4) de_int) ?_)
      show D.bl _ = D.bl _
      unfold leftB
      rw [hA, hc]
      simp only [chainB, Bool.true_and]
      congr 1
      exact decide_eq_decide.mpr (by omega)
theorem ok_ticks_hold {f : Addr} {fd : FuncData} (F : Fun K "_law_ticks_hold" "_law_ticks_hold" s_ticks_hold f fd) (T : Bn mg) : FnOk P w K mg base CX0 1 f fd ["windows", "machines", "ticks"] (spD K RAre) := by
  refine dfn F sc_ticks_hold (fun ds out h => ?_) (fun ds out h cdv A outer s H E hr => ?_)
  · obtain ⟨_, _, _, rfl, _, rfl⟩ := h; exact ⟨rfl, nofun⟩
  · obtain ⟨ws, m, ts, rfl, hm, rfl⟩ := h
    refine dss_st (ds_if (dt_cmp c_ne (de_lenL T.len (de_var 0)) (de_lenL T.len (de_var 2))) (fun hz => ?_) (fun hz => ?_))
    · refine dss_st (ds_ret de_bl ?_)
      show D.bl _ = D.bl _
      rw [areB_f]
      intro q
      have := q.len
      simp at hz
      omega
    have hl : ws.length = ts.length := by simp at hz; omega
    refine dss_nil (dss_len 2 (fun hsz => ?_))
    rw [List.length_map, sizeLine_eq] at hsz
    refine dss_st (ds_own 3 sc_ticks_hold.nd (df_lst da_nil) ?_)
    refine dss_st (ds_range1 4 ts.length (fun k ρ => (∀ (i : Nat) w t, i < k → ws[i]? = some w → ts[i]? = some (some t) → w.1 ≤ t ∧ t < w.2) ∧ ρ = [.dat (wsD ws), .dat (.int m), .dat (tsD ts), .own (.lst ((somes (ts.take k)).map .int)), .emp])
      sc_ticks_hold.nd T.range PassesOwn.never rfl (de_lenL T.len (de_var 0)) (by rw [List.length_map, hl]) (by omega) (Up.intro ⟨(by intro i _ _ h; omega), rfl⟩ (by walk_at "le")) ?_ ?_)
    · rintro k ρ' hk ⟨h3, rfl⟩
      refine ⟨(by intro m h; cases h), ?_⟩
      obtain ⟨o, ho⟩ : ∃ o, ts[k]? = some o := ⟨_, List.getElem?_eq_getElem hk⟩
      obtain ⟨win, hw⟩ : ∃ w, ws[k]? = some w := ⟨_, List.getElem?_eq_getElem (by omega)⟩
      have hoi : atI (ts.map tD) (k : Int) = some (tD o) := atI_nat (by rw [List.getElem?_map, ho]; rfl)
      have hwi : atI (ws.map pD) (k : Int) = some (pD win) := atI_nat (by rw [List.getElem?_map, hw]; rfl)
      cases o with
      | none =>
        refine dss_st (ds_ifF ((dt_cmp c_notN (de_ixL (de_var 2) (de_var 4) hoi) de_non).eq rfl) (dss_nil (dss_nil (Up.intro ⟨?_, rfl⟩ (by rw [somes_take ho]; simp only [Option.toList, List.append_nil]; walk_at "le")))))
        intro i w t hi hw' ht
        by_cases e : i = k
        · subst e; rw [ho] at ht; cases ht
        · exact h3 i w t (by omega) hw' ht
      | some t =>
        refine dss_st (ds_ifT ((dt_cmp c_notN (de_ixL (de_var 2) (de_var 4) hoi) de_non).eq rfl) ?_)
        refine dss_st (ds_if (dt_not (dt_chain c_le c_lt (de_ixT (de_ixL (de_var 0) (de_var 4) hwi) de_int (d := .int win.1)) (de_ixL (de_var 2) (de_var 4) (d := .int t) hoi) (de_ixT (de_ixL (de_var 0) (de_var 4) hwi) de_int (d := .int win.2)))) (fun hz => ?_) (fun hz => ?_))
        · refine dss_st (ds_ret de_bl ?_)
          show D.bl _ = D.bl _
          rw [areB_f]
          intro q
          have q1 := q.win k win t hw ho
          rw [decide_eq_true q1.1, decide_eq_true q1.2] at hz
          cases hz
        · simp only [Bool.not_eq_false', Bool.and_eq_true, decide_eq_true_eq] at hz
          refine dss_nil (dss_st (ds_append 3 (de_ixL (de_var 2) (de_var 4) (d := .int t) hoi) ?_ ?_))
          · rw [List.length_map, sizeLine_eq]; have := somes_len (ts.take k); rw [List.length_take] at this; omega
          refine dss_nil (dss_nil (Up.intro ⟨?_, rfl⟩ (by rw [somes_take ho]; simp only [Option.toList, List.map_append, List.map_cons, List.map_nil]; walk_at "le")))
          intro i w' t' hi hw' ht
          by_cases e : i = k
          · subst e; rw [ho] at ht; rw [hw] at hw'; cases ht; cases hw'; exact hz
          · exact h3 i w' t' (by omega) hw' ht
    · rintro ρ' ⟨h3, rfl⟩
      rw [List.take_length]
      refine dss_freeze 3 (m := .lst ((somes ts).map .int)) ?_
      refine dss_st (ds_set 3 sc_ticks_hold.nd (df_sortedI T.sorted (de_var 3)).de ?_)
      have hso := isort_sorted (somes ts)
      have hpe := isort_perm (somes ts)
      have hsl : (isort (somes ts)).length ≤ ts.length := by rw [hpe.length_eq]; exact somes_len ts
      have key : AreT ws m ts ↔ Apart m (isort (somes ts)) := by
        rw [apart_iff m _ hso]
        constructor
        · intro q t
          rw [hpe.count_eq, ← cntT_somes]; exact q.cnt t
        · intro q
          refine ⟨hl, fun i w t hw ht => h3 i w t (List.getElem?_eq_some_iff.mp ht).1 hw ht, fun t => ?_⟩
          rw [cntT_somes, ← hpe.count_eq]; exact q t
      generalize isort (somes ts) = u at hso hsl key
      · refine dss_st (ds_range2 4 (u.length - m) (fun k ρ => (∀ (j : Nat) x, j < k → u[j]? = some x → u[j + m]? ≠ some x) ∧ ρ = [.dat (wsD ws), .dat (.int m), .dat (tsD ts), .dat (.lst (u.map .int)), .emp])
          sc_ticks_hold.nd T.range PassesOwn.never rfl (de_var 1) (de_lenL T.len (de_var 3)) (by rw [List.length_map]; omega) ⟨by omega, by omega, by omega, by rw [List.length_map]; omega⟩ (Up.intro ⟨(by intro j _ h; omega), rfl⟩ (by walk_at "le")) ?_ ?_)
        · rintro k ρ' hk ⟨h5, rfl⟩
          refine ⟨(by intro m h; cases h), ?_⟩
          obtain ⟨a, ha⟩ : ∃ a, u[k]? = some a := ⟨_, List.getElem?_eq_getElem (by omega)⟩
          obtain ⟨b, hb⟩ : ∃ b, u[k + m]? = some b := ⟨_, List.getElem?_eq_getElem (by omega)⟩
          refine dss_st (ds_if (dt_cmp c_eq (de_ixL (de_var 3) (de_var 4) (d := .int b) (by rw [show (m : Int) + (k : Int) = ((k + m : Nat) : Int) by omega]; exact atI_nat (by rw [List.getElem?_map, hb]; rfl)))
            (de_ixL (de_var 3) ((de_sub (de_var 4) (de_var 1)).eq (d' := .int (k : Int)) (congrArg D.int (by omega))) (d := .int a) (atI_nat (by rw [List.getElem?_map, ha]; rfl)))) (fun hz => ?_) (fun hz => ?_))
          · have hz : b = a := of_decide_eq_true hz
            refine dss_st (ds_ret de_bl ?_)
            show D.bl _ = D.bl _
            rw [areB_f]
            intro q
            exact key.mp q k a ha (by rw [hb, hz])
          · have hz : ¬ b = a := of_decide_eq_false hz
            refine dss_nil (dss_nil (Up.intro ⟨fun j x hj hx => ?_, rfl⟩ (by walk_at "le")))
            by_cases e : j = k
            · subst e; rw [ha] at hx; cases hx; rw [hb]; intro z; cases z; exact hz rfl
            · exact h5 j x (by omega) hx
        · rintro ρ' ⟨h5, rfl⟩
          refine dss_st (ds_ret de_bl ?_)
          show D.bl _ = D.bl _
          rw [areB_t (key.mpr fun j x hx hx2 => ?_)]
          exact h5 j x (by have := (List.getElem?_eq_some_iff.mp hx2).1; omega) hx hx2
theorem ok_holds {f : Addr} {fd : FuncData} (F : Fun K "_law_holds" "_law_holds" s_holds f fd) (T : Bn mg) (c_ticks_hold : Fn P w K mg base CX0 1 "_law_ticks_hold" ["windows", "machines", "ticks"] (spD K RAre))
    (c_excess : Fn P w K mg base CX0 2 "_law_excess" ["windows", "machines", "stretch"] (spD K RExcess2)) :
    FnOk P w K mg base CX0 3 f fd ["windows", "machines", "ticks", "stretches"] (spD K RLeft) := by
  refine dfn F sc_holds (fun ds out h => ?_) (fun ds out h cdv A outer s H E hr => ?_)
  · obtain ⟨_, _, _, _, rfl, _, rfl⟩ := h; exact ⟨rfl, nofun⟩
  · obtain ⟨ws, m, ts, st, rfl, hm, rfl⟩ := h
    refine dss_len 2 (fun hsz => ?_)
    rw [List.length_map] at hsz
    refine dss_st (ds_if (dt_not (dt_val (de_callF c_ticks_hold (hr.mono (by decide)) pass0 (da_cons (de_var 0) (da_cons (de_var 1) (da_cons (de_var 2) da_nil))) (d := .bl (areB ws m ts)) ⟨ws, m, ts, rfl, hm, rfl⟩))) (fun hz => ?_) (fun hz => ?_))
    · refine dss_st (ds_ret de_bl ?_)
      show D.bl _ = D.bl _
      unfold leftB
      rw [show areB ws m ts = false by simpa using hz]; rfl
    have hA : areB ws m ts = true := by simpa using hz
    refine dss_nil ?_
    refine dss_st (ds_set 4 sc_holds.nd de_int ?_)
    refine dss_st (ds_set 5 sc_holds.nd de_int ?_)
    refine dss_st (ds_each 6 (items := st.map pD) (fun k ρ => ∃ bf : Int, chainB ws m 0 st = chainB ws m bf (st.drop k) ∧ ρ = [.dat (wsD ws), .dat (.int m), .dat (tsD ts), .dat (wsD st), .dat (.int (sumE ws m (st.take k))), .dat (.int bf), .emp, .emp])
      sc_holds.nd PassesOwn.never rfl (de_var 3) (Up.intro ⟨0, rfl, rfl⟩ (by walk_at "le")) ?_ ?_)
    · rintro k x ρ' hx ⟨bf, hc, rfl⟩
      obtain ⟨s0, hs, rfl⟩ := pd_get hx
      refine ⟨(by intro m h; cases h), ?_⟩
      rw [drop_cons' hs] at hc
      have hsum : sumE ws m (st.take (k + 1)) = sumE ws m (st.take k) + exc ws m s0.1 s0.2 := by rw [take_succ' hs, sumE_app]; simp [sumE]
      refine dss_st (ds_if (dw_or (dt_not (dt_chain c_le c_lt (de_var 5) (de_ixT (de_var 6) de_int (d := .int s0.1)) (de_ixT (de_var 6) de_int (d := .int s0.2)))) (fun _ => (dw_or1 (dt_cmp c_le (de_callF c_excess (hr.mono (by decide)) pass0 (da_cons (de_var 0) (da_cons (de_var 1) (da_cons (de_var 6) da_nil))) (d := .int (exc ws m s0.1 s0.2)) ⟨ws, m, s0, rfl, hm, rfl⟩) de_int)))).dt (fun hz => ?_) (fun hz => ?_))
      · refine dss_st (ds_ret de_bl ?_)
        show D.bl _ = D.bl _
        unfold leftB
        rw [hA, hc]
        simp only [chainB, Bool.or_eq_true, decide_eq_true_eq, Bool.not_eq_true', Bool.and_eq_false_iff, decide_eq_false_iff_not] at hz ⊢
        have h2 : (decide (bf ≤ s0.1) && decide (s0.1 < s0.2) && decide (0 < exc ws m s0.1 s0.2)) = false := by
          cases h : (decide (bf ≤ s0.1) && decide (s0.1 < s0.2) && decide (0 < exc ws m s0.1 s0.2)) with
          | false => rfl
          | true => simp only [Bool.and_eq_true, decide_eq_true_eq] at h; omega
        rw [h2]; simp
      · refine dss_nil ?_
        refine dss_st (ds_set 4 sc_holds.nd (de_add (de_var 4) (de_callF c_excess (hr.mono (by decide)) pass0 (da_cons (de_var 0) (da_cons (de_var 1) (da_cons (de_var 6) da_nil))) (d := .int (exc ws m s0.1 s0.2)) ⟨ws, m, s0, rfl, hm, rfl⟩)) ?_)
        refine dss_st (ds_set 5 sc_holds.nd (de_ixT (de_var 6) de_int (d := .int s0.2)) ?_)
        simp only [Bool.or_eq_false_iff, decide_eq_false_iff_not, Bool.not_eq_false', Bool.and_eq_true, decide_eq_true_eq] at hz
        refine dss_nil (Up.intro ⟨s0.2, ?_, rfl⟩ (by rw [hsum]; walk_at "le"))
        rw [hc]
        simp only [chainB]
        rw [decide_eq_true (show bf ≤ s0.1 by omega), decide_eq_true (show s0.1 < s0.2 by omega), decide_eq_true (show 0 < exc ws m s0.1 s0.2 by omega)]; rfl
    · rintro ρ' ⟨bf, hc, rfl⟩
      rw [drop_all'] at hc
      rw [take_all']
      refine dss_st (ds_ret (de_cmp c_eq (de_var 4) ((de_lenL T.len (df_lc1 7 (items := ts) (f := tD) (fun o => (tD o).isNon) tD rfl sc_holds.nd (di_list (de_var 2)) rfl hsz
        (fun x hx s' H' C cl fp => ⟨dts_one (dt_cmp c_isN (de_var 7) de_non), fun _ => de_var 7⟩)).de).eq (d' := .int (nN ts : Int)) (congrArg D.int (by rw [nN_list])))) ?_)
      show D.bl _ = D.bl _
      unfold leftB
      rw [hA, hc]
      simp only [chainB, Bool.true_and]
theorem ok_emptied {f : Addr} {fd : FuncData} (F : Fun K "_law_emptied" "_law_emptied" s_emptied f fd) (T : Bn mg) : FnOk P w K mg base CX0 1 f fd ["ticks", "many"] (spD K REmptied) := by
  refine dfn F sc_emptied (fun ds out h => ?_) (fun ds out h cdv A outer s H E hr => ?_)
  · obtain ⟨_, _, rfl, rfl⟩ := h; exact ⟨rfl, nofun⟩
  · obtain ⟨ts, n, rfl, rfl⟩ := h
    refine dss_len 0 (fun hsz => ?_)
    rw [List.length_map, sizeLine_eq] at hsz
    refine dss_st (ds_own 2 sc_emptied.nd (df_lst da_nil) ?_)
    refine dss_st (ds_each 3 (items := ts.map tD) (fun k ρ => ∃ (acc : List (Option Int)) (c : Int), acc.length = k ∧ emptiedL n ts = acc ++ emptiedL c (ts.drop k) ∧ ρ = [.dat (tsD ts), .dat (.int c), .own (.lst (acc.map tD)), .emp])
      sc_emptied.nd PassesOwn.never rfl (de_var 0) (Up.intro ⟨[], n, rfl, rfl, rfl⟩ (by walk_at "le")) ?_ ?_)
    · rintro k x ρ' hx ⟨acc, c, ha, hc, rfl⟩
      obtain ⟨o, ho, rfl⟩ := pd_get hx
      have hk : k < ts.length := (List.getElem?_eq_some_iff.mp ho).1
      refine ⟨(by intro m h; cases h), ?_⟩
      rw [drop_cons' ho] at hc
      cases o with
      | none =>
        refine dss_st (ds_ifF ((dw_and (dt_cmp c_notN (de_var 3) de_non) (fun _ => dw_and1 (dt_cmp c_gt (de_var 1) de_int))).dt.eq rfl) ?_)
        refine dss_st (ds_append 2 (d := tD none) (de_var 3) ?_ ?_)
        · rw [List.length_map, sizeLine_eq]; omega
        refine dss_nil (dss_nil (Up.intro ⟨acc ++ [none], c, by simp [ha], ?_, rfl⟩ (by simp only [List.map_append, List.map_cons, List.map_nil]; walk_at "le")))
        rw [hc]; simp [emptiedL]
      | some t =>
        refine dss_st (ds_if (z := decide (0 < c)) ((dw_and (dt_cmp c_notN (de_var 3) de_non) (fun _ => dw_and1 (dt_cmp c_gt (de_var 1) de_int))).dt.eq rfl) (fun hz => ?_) (fun hz => ?_))
        · have hz : 0 < c := of_decide_eq_true hz
          refine dss_st (ds_set 1 sc_emptied.nd (de_sub (de_var 1) de_int) ?_)
          refine dss_st (ds_append 2 (d := tD none) de_non ?_ ?_)
          · rw [List.length_map, sizeLine_eq]; omega
          refine dss_nil (dss_nil (Up.intro ⟨acc ++ [none], c - 1, by simp [ha], ?_, rfl⟩ (by simp only [List.map_append, List.map_cons, List.map_nil]; walk_at "le")))
          rw [hc]; simp [emptiedL, hz]
        · have hz : ¬ 0 < c := of_decide_eq_false hz
          refine dss_st (ds_append 2 (d := tD (some t)) (de_var 3) ?_ ?_)
          · rw [List.length_map, sizeLine_eq]; omega
          refine dss_nil (dss_nil (Up.intro ⟨acc ++ [some t], c, by simp [ha], ?_, rfl⟩ (by simp only [List.map_append, List.map_cons, List.map_nil]; walk_at "le")))
          rw [hc]; simp [emptiedL, hz]
    · rintro ρ' ⟨acc, c, ha, hc, rfl⟩
      rw [drop_all'] at hc
      refine dss_st (ds_retOwn 2 (m := .lst (acc.map tD)) ?_)
      show _ = _
      rw [hc]; simp [emptiedL]
end
end K30
set_option Elab.async false
set_option linter.all false
set_option maxRecDepth 100000
set_option maxHeartbeats 4000000
namespace K30
open PySem PySem.Spec PyProof.Rows L2 DL
local macro_rules | `(tactic| walk_at "le") => `(tactic| (first | exact trivial | exact ⟨.inl rfl, by walk_at "le"⟩ | exact ⟨.inr ⟨rfl, rfl⟩, by walk_at "le"⟩))
def prD (p : Pr) : D := .tup [pD p.1, tD p.2]
theorem ins_perm {α : Type} (xs : List α) (x : α) (n : Nat) : (xs.take n ++ [x] ++ xs.drop n).Perm (xs ++ [x]) := by
  rw [List.append_assoc]
  refine (List.Perm.append_left _ List.perm_append_comm).trans ?_
  rw [← List.append_assoc, List.take_append_drop]
theorem mid_perm {α : Type} (xs ys : List α) (n : Nat) : (xs.take n ++ ys ++ xs.drop n).Perm (xs ++ ys) := by
  rw [List.append_assoc]
  refine (List.Perm.append_left _ List.perm_append_comm).trans ?_
  rw [← List.append_assoc, List.take_append_drop]
def looseN (ns : List Int) (k m : Nat) : Nat := min m (dI (digits (cellN ns (34 + k)) [3, 6, 6, 6, 6] ((60 + k : Nat) : Int)) 0).toNat
def loosePr (ns : List Int) (k : Nat) (place : Int) (j : Nat) : Pr :=
  ((if place - dI (digits (cellN ns (34 + k)) [3, 6, 6, 6, 6] ((60 + k : Nat) : Int)) (1 + 2 * j) > 0 then place - dI (digits (cellN ns (34 + k)) [3, 6, 6, 6, 6] ((60 + k : Nat) : Int)) (1 + 2 * j) else 0, place + 1 + dI (digits (cellN ns (34 + k)) [3, 6, 6, 6, 6] ((60 + k : Nat) : Int)) (2 + 2 * j)), some place)
def looseL (ns : List Int) (k : Nat) (place : Int) (m : Nat) : List Pr := (List.range (looseN ns k m)).map (loosePr ns k place)
def RLoose (ds : List D) (out : Out) : Prop := ∃ (ns : List Int) (k : Nat) (place : Int) (m : Nat), ds = [.lst (ns.map .int), .int k, .int place, .int m] ∧ k ≤ 2 ∧ m ≤ 4 ∧ out = .new (.lst ((looseL ns k place m).map prD))
section
variable {P : Program} {w : World} {K : PySem.W.Frag} {mg : Str → Option Value} {base : Heap}
theorem ok_cluster {f : Addr} {fd : FuncData} (F : Fun K "_law_cluster" "_law_cluster" s_cluster f fd) (T : Bn mg) (c_cell : Fn P w K mg base CX0 1 "_law_cell" ["script", "k"] (spD K RCell)) (c_digits : Fn P w K mg base CX0 1 "_law_digits" ["cell", "sizes", "salt"] (spD K RDigits))
    (ns : List Int) (k : Nat) (b : Int) (size m extra : Nat) (hk : k ≤ 2) (hs0 : 1 ≤ size) (hs1 : size ≤ 25) (hm0 : 1 ≤ m) (hm1 : m ≤ 4) (he : extra ≤ 2) :
    FnOk P w K mg base CX0 2 f fd ["script", "k", "begin", "size", "machines", "extra"] (spN K (fun ds => ds = [.lst (ns.map .int), .int k, .int b, .int size, .int m, .int extra]) (fun _ out => ∃ ps : List Pr, out = .new (.lst (ps.map prD)) ∧ Clu ps m b size extra)) := by
  refine dfnN F sc_cluster (fun ds h => ?_) (fun ds h cdv A outer s H E hr => ?_)
  · subst h; rfl
  · subst h
    have hms : m * size ≤ 100 := Nat.le_trans (Nat.mul_le_mul hm1 hs1) (by decide)
    refine dss_st (ds_own 6 sc_cluster.nd (df_lst da_nil) ?_)
    refine dss_st (ds_range1 7 (m * size + extra) (fun j ρ => ∃ ps : List Pr, ps.length = j ∧ (∀ p ∈ ps, b ≤ p.1.1 ∧ p.1.1 < p.1.2 ∧ p.1.2 ≤ b + (size : Int)) ∧ (∀ p ∈ ps, ∀ t, p.2 = some t → p.1.1 ≤ t ∧ t < p.1.2) ∧ (ps.map (·.2)).Perm ((List.range j).map (tkOf m b size)) ∧
        ρ = [.dat (.lst (ns.map .int)), .dat (.int k), .dat (.int b), .dat (.int size), .dat (.int m), .dat (.int extra), .own (.lst (ps.map prD)), .emp, .emp, .emp, .emp, .emp])
      sc_cluster.nd T.range PassesOwn.never rfl (de_add (de_mul (de_var 4) (de_var 3) (.inl (by omega))) (de_var 5)) (by push_cast; rfl) (by omega) (Up.intro ⟨[], rfl, (by intro p h; cases h), (by intro p h; cases h), List.Perm.refl _, rfl⟩ (by walk_at "le")) ?_ ?_)
    · rintro j ρ' hj ⟨ps, hl, h1, h2, h3, rfl⟩
      refine ⟨(by intro m h; cases h), ?_⟩
      have hjb : (j : Int) / 8 ≤ 200 := by omega
      have hpos : ∀ s ∈ ([(size : Int), (size : Int), 60] : List Int), 0 < s ∧ s < 1073741824 := by
        intro s hs
        simp only [List.mem_cons, List.not_mem_nil, or_false] at hs
        omega
      have hp0 : ∀ s ∈ ([(size : Int), (size : Int), 60] : List Int), 0 < s := fun s hs => (hpos s hs).1
      refine dss_st (ds_set 8 sc_cluster.nd (df_callF c_digits (hr.mono (by decide)) pass0 (da_cons (de_add (de_callF c_cell (hr.mono (by decide)) pass0 (da_cons (de_var 0) (da_cons ((de_add (de_add de_int (de_mul de_int (de_var 1) (.inl (by decide)))) (de_mod (de_int1 T.int (de_var 7)) de_int (by decide))).eq (d' := .int (((8 + 8 * k + j % 8 : Nat) : Int))) (congrArg D.int (by omega))) da_nil)) (d := .int (cellN ns (8 + 8 * k + j % 8))) ⟨ns, 8 + 8 * k + j % 8, rfl, rfl⟩) (de_fdiv (de_var 7) de_int (by decide))) (da_cons (df_lst (da_cons (de_var 3) (da_cons (de_var 3) (da_cons de_int da_nil)))).de (da_cons ((de_add de_int (de_var 7)).eq (d' := .int (((30 + j : Nat) : Int))) (congrArg D.int (by omega))) da_nil))) (m := .lst ((digits (cellN ns (8 + 8 * k + j % 8) + (j : Int) / 8) [(size : Int), (size : Int), 60] ((30 + j : Nat) : Int)).map .int)) ⟨_, [(size : Int), (size : Int), 60], 30 + j, rfl, hpos, by omega, by simp, rfl⟩).de ?_)
      have g0 := dig_get (cellN ns (8 + 8 * k + j % 8) + (j : Int) / 8) ((30 + j : Nat) : Int) hp0 0 (s := (size : Int)) rfl
      have g1 := dig_get (cellN ns (8 + 8 * k + j % 8) + (j : Int) / 8) ((30 + j : Nat) : Int) hp0 1 (s := (size : Int)) rfl
      have g2 := dig_get (cellN ns (8 + 8 * k + j % 8) + (j : Int) / 8) ((30 + j : Nat) : Int) hp0 2 (s := 60) rfl
      have a0 := dig_at (cellN ns (8 + 8 * k + j % 8) + (j : Int) / 8) ((30 + j : Nat) : Int) hp0 0 (s := (size : Int)) rfl
      have a1 := dig_at (cellN ns (8 + 8 * k + j % 8) + (j : Int) / 8) ((30 + j : Nat) : Int) hp0 1 (s := (size : Int)) rfl
      have a2 := dig_at (cellN ns (8 + 8 * k + j % 8) + (j : Int) / 8) ((30 + j : Nat) : Int) hp0 2 (s := 60) rfl
      generalize digits (cellN ns (8 + 8 * k + j % 8) + (j : Int) / 8) [(size : Int), (size : Int), 60] ((30 + j : Nat) : Int) = dg at g0 g1 g2 a0 a1 a2 ⊢
      obtain ⟨lo0, hlo, hlo1, hlo2⟩ : ∃ lo0 : Int, lo0 = (if dI dg 1 < dI dg 0 then dI dg 1 else dI dg 0) ∧ 0 ≤ lo0 ∧ lo0 < (size : Int) := by
        refine ⟨_, rfl, ?_, ?_⟩ <;> split <;> omega
      obtain ⟨hi0, hhi, hhi1, hhi2, hhi3⟩ : ∃ hi0 : Int, hi0 = (if dI dg 1 > dI dg 0 then dI dg 1 else dI dg 0) ∧ 0 ≤ hi0 ∧ hi0 < (size : Int) ∧ lo0 ≤ hi0 := by
        refine ⟨_, rfl, ?_, ?_, ?_⟩
        · split <;> omega
        · split <;> omega
        · rw [hlo]; split <;> split <;> omega
      refine dss_st (ds_set 9 sc_cluster.nd ((de_min2 rfl T.min (de_ixL (de_var 8) de_int (atI_nat a0)) (de_ixL (de_var 8) de_int (atI_nat a1))).eq (d' := .int (lo0)) (congrArg D.int (hlo.symm))) ?_)
      refine dss_st (ds_set 10 sc_cluster.nd ((de_max2 rfl T.max (de_ixL (de_var 8) de_int (atI_nat a0)) (de_ixL (de_var 8) de_int (atI_nat a1))).eq (d' := .int (hi0)) (congrArg D.int (hhi.symm))) ?_)
      refine dss_st (ds_set 11 sc_cluster.nd de_non ?_)
      refine dss_st (ds_cut (fun ρ => ∃ lo hi : Int, 0 ≤ lo ∧ lo ≤ hi ∧ hi < (size : Int) ∧ (∀ t, tkOf m b size j = some t → b + lo ≤ t ∧ t ≤ b + hi) ∧
          ρ = [.dat (.lst (ns.map .int)), .dat (.int k), .dat (.int b), .dat (.int size), .dat (.int m), .dat (.int extra), .own (.lst (ps.map prD)), .dat (.int j), .dat (.lst (dg.map .int)), .dat (.int lo), .dat (.int hi), .dat (tD (tkOf m b size j))])
        (ds_if (dt_cmp c_lt (de_var 7) (de_mul (de_var 4) (de_var 3) (.inl (by omega)))) (fun hz => ?_) (fun hz => ?_)) ?_)
      · have hz : j < m * size := by have : (j : Int) < (m : Int) * (size : Int) := of_decide_eq_true hz; push_cast at *; omega
        have hq : j / m < size := (Nat.div_lt_iff_lt_mul hm0).mpr (by rw [Nat.mul_comm]; exact hz)
        have hdv : (j : Int) / (m : Int) = ((j / m : Nat) : Int) := rfl
        generalize hqe : j / m = q at hq hdv
        obtain ⟨lo1, hlo', hlo1', hlo2', hlo3'⟩ : ∃ lo1 : Int, lo1 = (if (j : Int) / (m : Int) < lo0 then (j : Int) / (m : Int) else lo0) ∧ 0 ≤ lo1 ∧ lo1 ≤ (q : Int) ∧ lo1 ≤ lo0 := by
          refine ⟨_, rfl, ?_, ?_, ?_⟩ <;> rw [hdv] <;> split <;> omega
        obtain ⟨hi1, hhi', hhi1', hhi2', hhi3'⟩ : ∃ hi1 : Int, hi1 = (if (j : Int) / (m : Int) > hi0 then (j : Int) / (m : Int) else hi0) ∧ (q : Int) ≤ hi1 ∧ hi1 < (size : Int) ∧ hi0 ≤ hi1 := by
          refine ⟨_, rfl, ?_, ?_, ?_⟩ <;> rw [hdv] <;> split <;> omega
        have htk : tkOf m b size j = some (b + (q : Int)) := by unfold tkOf; rw [if_pos hz, hqe]
        refine dss_st (ds_set 9 sc_cluster.nd ((de_min2 rfl T.min (de_var 9) (de_fdiv (de_var 7) (de_var 4) ⟨by omega, by omega⟩)).eq (d' := .int (lo1)) (congrArg D.int (hlo'.symm))) ?_)
        refine dss_st (ds_set 10 sc_cluster.nd ((de_max2 rfl T.max (de_var 10) (de_fdiv (de_var 7) (de_var 4) ⟨by omega, by omega⟩)).eq (d' := .int (hi1)) (congrArg D.int (hhi'.symm))) ?_)
        refine dss_st (ds_set 11 sc_cluster.nd ((de_add (de_var 2) (de_fdiv (de_var 7) (de_var 4) ⟨by omega, by omega⟩)).eq (d' := .int (b + (q : Int))) (congrArg D.int (by rw [hdv]))) ?_)
        refine dss_nil (Up.intro ⟨lo1, hi1, hlo1', by omega, hhi2', fun t ht => ?_, rfl⟩ (by rw [htk]; walk_at "le"))
        rw [htk] at ht; cases ht; omega
      · have hz : ¬ j < m * size := by have : ¬ (j : Int) < (m : Int) * (size : Int) := of_decide_eq_false hz; push_cast at *; omega
        have htk : tkOf m b size j = none := by unfold tkOf; rw [if_neg hz]
        refine dss_nil (Up.intro ⟨lo0, hi0, hlo1, hhi3, hhi2, fun t ht => ?_, rfl⟩ (by rw [htk]; walk_at "le"))
        rw [htk] at ht; cases ht
      · rintro ρ' ⟨lo, hi, q1, q2, q3, q4, rfl⟩
        have m1 := Int.emod_nonneg (dI dg 2) (b := ((ps.map prD).length : Int) + 1) (by omega)
        have m2 := Int.emod_lt_of_pos (dI dg 2) (b := ((ps.map prD).length : Int) + 1) (by omega)
        rw [List.length_map] at m2
        obtain ⟨n, hn⟩ := Int.eq_ofNat_of_zero_le m1
        rw [List.length_map] at hn
        refine dss_st (ds_insert (n := n) 6 (de_peek ((de_mod (de_int1 T.int (de_ixL (de_var 8) de_int (atI_nat a2))) (de_add (de_lenL T.len (de_var 6)) de_int) (by omega)).eq (d' := .int (n : Int)) (congrArg D.int (by rw [List.length_map]; exact hn))))
          (d := prD ((b + lo, b + 1 + hi), tkOf m b size j)) (de_tup (da_cons (de_tup (da_cons (de_add (de_var 2) (de_var 9)) (da_cons (de_add (de_add (de_var 2) de_int) (de_var 10)) da_nil))) (da_cons (de_var 11) da_nil))) (by omega) ?_ ?_)
        · rw [List.length_map, sizeLine_eq]; omega
        · have hmem : ∀ p, p ∈ ps.take n ++ [((b + lo, b + 1 + hi), tkOf m b size j)] ++ ps.drop n → p ∈ ps ∨ p = ((b + lo, b + 1 + hi), tkOf m b size j) := by
            intro p hp
            have := (ins_perm ps ((b + lo, b + 1 + hi), tkOf m b size j) n).mem_iff.mp hp
            simpa using this
          refine dss_nil (Up.intro ⟨ps.take n ++ [((b + lo, b + 1 + hi), tkOf m b size j)] ++ ps.drop n, ?_, ?_, ?_, ?_, rfl⟩ (by simp only [List.map_append, List.map_take, List.map_drop, List.map_cons, List.map_nil]; walk_at "le"))
          · rw [(ins_perm ps _ n).length_eq]; simp [hl]
          · intro p hp
            rcases hmem p hp with q | rfl
            · exact h1 p q
            · refine ⟨?_, ?_, ?_⟩
              · show b ≤ b + lo; omega
              · show b + lo < b + 1 + hi; omega
              · show b + 1 + hi ≤ b + (size : Int); omega
          · intro p hp t ht
            rcases hmem p hp with q | rfl
            · exact h2 p q t ht
            · have := q4 t ht
              show b + lo ≤ t ∧ t < b + 1 + hi
              omega
          · refine ((ins_perm ps _ n).map (·.2)).trans ?_
            rw [List.map_append, List.range_succ, List.map_append]
            exact h3.append (List.Perm.refl _)
    · rintro ρ' ⟨ps, hl, h1, h2, h3, rfl⟩
      refine dss_st (ds_retOwn 6 (m := .lst (ps.map prD)) ⟨ps, rfl, hl, h1, h2, fun t => ?_, ?_⟩)
      · rw [cntT_perm h3]; exact tk_cnt hm0 b size t _
      · rw [nN_perm h3, tk_non]; omega
theorem ok_loose {f : Addr} {fd : FuncData} (F : Fun K "_law_loose" "_law_loose" s_loose f fd) (T : Bn mg) (c_cell : Fn P w K mg base CX0 1 "_law_cell" ["script", "k"] (spD K RCell)) (c_digits : Fn P w K mg base CX0 1 "_law_digits" ["cell", "sizes", "salt"] (spD K RDigits)) :
    FnOk P w K mg base CX0 2 f fd ["script", "k", "place", "machines"] (spD K RLoose) := by
  refine dfn F sc_loose (fun ds out h => ?_) (fun ds out h cdv A outer s H E hr => ?_)
  · obtain ⟨_, _, _, _, rfl, _, _, rfl⟩ := h; exact ⟨rfl, nofun⟩
  · obtain ⟨ns, k, place, m, rfl, hk, hm, rfl⟩ := h
    refine dss_st (ds_set 4 sc_loose.nd (df_callF c_digits (hr.mono (by decide)) pass0 (da_cons (de_callF c_cell (hr.mono (by decide)) pass0 (da_cons (de_var 0) (da_cons ((de_add de_int (de_var 1)).eq (d' := .int (((34 + k : Nat) : Int))) (congrArg D.int (by omega))) da_nil)) (d := .int (cellN ns (34 + k))) ⟨ns, 34 + k, rfl, rfl⟩) (da_cons (df_lst (da_cons de_int (da_cons de_int (da_cons de_int (da_cons de_int (da_cons de_int da_nil)))))).de (da_cons ((de_add de_int (de_var 1)).eq (d' := .int (((60 + k : Nat) : Int))) (congrArg D.int (by omega))) da_nil))) (m := .lst ((digits (cellN ns (34 + k)) [3, 6, 6, 6, 6] ((60 + k : Nat) : Int)).map .int)) ⟨_, [3, 6, 6, 6, 6], 60 + k, rfl, by decide, by omega, by decide, rfl⟩).de ?_)
    have hg : ∀ (i : Nat) (s : Int), ([3, 6, 6, 6, 6] : List Int)[i]? = some s → _ := fun i s h => dig_get (cellN ns (34 + k)) ((60 + k : Nat) : Int) (by decide) i (s := s) h
    have ha : ∀ (i : Nat) (s : Int), ([3, 6, 6, 6, 6] : List Int)[i]? = some s → _ := fun i s h => dig_at (cellN ns (34 + k)) ((60 + k : Nat) : Int) (by decide) i (s := s) h
    have g0 := hg 0 3 rfl
    have a0 := ha 0 3 rfl
    have hN : looseN ns k m ≤ 2 := by unfold looseN; omega
    have hNv : (if dI (digits (cellN ns (34 + k)) [3, 6, 6, 6, 6] ((60 + k : Nat) : Int)) 0 < (m : Int) then dI (digits (cellN ns (34 + k)) [3, 6, 6, 6, 6] ((60 + k : Nat) : Int)) 0 else (m : Int)) = ((looseN ns k m : Nat) : Int) := by
      unfold looseN; split <;> omega
    refine dss_st (ds_own 5 sc_loose.nd (df_lst da_nil) ?_)
    refine dss_st (ds_range1 6 (looseN ns k m) (fun j ρ => ρ = [.dat (.lst (ns.map .int)), .dat (.int k), .dat (.int place), .dat (.int m), .dat (.lst ((digits (cellN ns (34 + k)) [3, 6, 6, 6, 6] ((60 + k : Nat) : Int)).map .int)), .own (.lst (((List.range j).map (loosePr ns k place)).map prD)), .emp])
      sc_loose.nd T.range PassesOwn.never rfl (de_min2 rfl T.min (de_var 3) (de_ixL (de_var 4) de_int (atI_nat a0))) hNv (by omega) (Up.intro rfl (by walk_at "le")) ?_ ?_)
    · rintro j ρ' hj rfl
      refine ⟨(by intro m h; cases h), ?_⟩
      have b1 := ha (1 + 2 * j) 6 (by rcases (show j = 0 ∨ j = 1 by omega) with rfl | rfl <;> rfl)
      have b2 := ha (2 + 2 * j) 6 (by rcases (show j = 0 ∨ j = 1 by omega) with rfl | rfl <;> rfl)
      refine dss_st (ds_append 5 (d := prD (loosePr ns k place j)) (de_tup (da_cons (de_tup (da_cons (de_max2 rfl T.max de_int (de_sub (de_var 2) (de_ixL (de_var 4) ((de_add de_int (de_mul de_int (de_var 6) (.inl (by decide)))).eq (d' := .int (((1 + 2 * j : Nat) : Int))) (congrArg D.int (by omega))) (atI_nat b1)))) (da_cons (de_add (de_add (de_var 2) de_int) (de_ixL (de_var 4) ((de_add de_int (de_mul de_int (de_var 6) (.inl (by decide)))).eq (d' := .int (((2 + 2 * j : Nat) : Int))) (congrArg D.int (by omega))) (atI_nat b2))) da_nil))) (da_cons (de_var 2) da_nil))) ?_ ?_)
      · rw [List.length_map, List.length_map, List.length_range, sizeLine_eq]; omega
      · exact dss_nil (Up.intro rfl (by simp only [List.range_succ, List.map_append, List.map_cons, List.map_nil]; walk_at "le"))
    · rintro ρ' rfl
      exact dss_st (ds_retOwn 5 rfl)
end
end K30
set_option Elab.async false
set_option linter.all false
set_option maxRecDepth 100000
set_option maxHeartbeats 4000000
namespace K30
open PySem PySem.Spec PyProof.Rows L2 DL
local macro_rules | `(tactic| walk_at "le") => `(tactic| (first | exact trivial | exact ⟨.inl rfl, by walk_at "le"⟩ | exact ⟨.inr ⟨rfl, rfl⟩, by walk_at "le"⟩))
def sz4 : List Int := [4, 4, 3, 60]
theorem loose_ok {ns : List Int} {k m : Nat} {place : Int} (hp : 0 ≤ place) : ∀ p ∈ looseL ns k place m, p.1.1 ≤ place ∧ place < p.1.2 ∧ p.2 = some place := by
  intro p hp'
  obtain ⟨j, hj, rfl⟩ := List.mem_map.mp hp'
  have hj := List.mem_range.mp hj
  have g0 := dig_get (cellN ns (34 + k)) (ss := [3, 6, 6, 6, 6]) ((60 + k : Nat) : Int) (by decide) 0 (s := 3) rfl
  have hN : looseN ns k m ≤ 2 := by unfold looseN; omega
  have b1 := dig_get (cellN ns (34 + k)) (ss := [3, 6, 6, 6, 6]) ((60 + k : Nat) : Int) (by decide) (1 + 2 * j) (s := 6) (by rcases (show j = 0 ∨ j = 1 by omega) with rfl | rfl <;> rfl)
  have b2 := dig_get (cellN ns (34 + k)) (ss := [3, 6, 6, 6, 6]) ((60 + k : Nat) : Int) (by decide) (2 + 2 * j) (s := 6) (by rcases (show j = 0 ∨ j = 1 by omega) with rfl | rfl <;> rfl)
  refine ⟨?_, ?_, rfl⟩
  · unfold loosePr
    dsimp only
    split <;> omega
  · unfold loosePr
    dsimp only
    omega
theorem loose_len {ns : List Int} {k m : Nat} {place : Int} : (looseL ns k place m).length ≤ m ∧ (looseL ns k place m).length ≤ 2 := by
  have g0 := dig_get (cellN ns (34 + k)) (ss := [3, 6, 6, 6, 6]) ((60 + k : Nat) : Int) (by decide) 0 (s := 3) rfl
  unfold looseL
  rw [List.length_map, List.length_range]
  unfold looseN
  omega
section
variable {P : Program} {w : World} {K : PySem.W.Frag} {mg : Str → Option Value} {base : Heap}
theorem ok_built {f : Addr} {fd : FuncData} (F : Fun K "_law_built" "_law_built" s_built f fd) (T : Bn mg) (c_cell : Fn P w K mg base CX0 1 "_law_cell" ["script", "k"] (spD K RCell)) (c_digits : Fn P w K mg base CX0 1 "_law_digits" ["cell", "sizes", "salt"] (spD K RDigits))
    (c_loose : Fn P w K mg base CX0 2 "_law_loose" ["script", "k", "place", "machines"] (spD K RLoose))
    (c_cluster : ∀ (ns : List Int) (k : Nat) (b : Int) (size m extra : Nat), k ≤ 2 → 1 ≤ size → size ≤ 25 → 1 ≤ m → m ≤ 4 → extra ≤ 2 → Fn P w K mg base CX0 2 "_law_cluster" ["script", "k", "begin", "size", "machines", "extra"] (spN K (fun ds => ds = [.lst (ns.map .int), .int k, .int b, .int size, .int m, .int extra]) (fun _ out => ∃ ps : List Pr, out = .new (.lst (ps.map prD)) ∧ Clu ps m b size extra)))
    (ns hd : List Int) (m : Nat) (hm0 : 1 ≤ m) (hm1 : m ≤ 4) (hh : ∀ (i : Nat) (s : Int), ([4, 3, 3, 16] : List Int)[i]? = some s → hd[i]? = some (dI hd i) ∧ 0 ≤ dI hd i ∧ dI hd i < s) :
    FnOk P w K mg base CX0 3 f fd ["script", "head", "machines"] (spN K (fun ds => ds = [.lst (ns.map .int), .lst (hd.map .int), .int m]) (fun _ out => ∃ (ps : List Pr) (cr fl : List W) (e : Int), out = .val (.tup [.lst (ps.map prD), wsD cr, wsD fl]) ∧ Bui ps cr m e ∧ (∃ p ∈ ps, p.2.isSome = true) ∧ ps.length ≤ 312 ∧ cr.length ≤ 3 ∧ fl.length ≤ 3)) := by
  refine dfnN F sc_built (fun ds h => ?_) (fun ds h cdv A outer s H E hr => ?_)
  · subst h; rfl
  · subst h
    have hha : ∀ (i : Nat) (s : Int), ([4, 3, 3, 16] : List Int)[i]? = some s → (hd.map D.int)[i]? = some (D.int (dI hd i)) := fun i s h => by rw [List.getElem?_map, (hh i s h).1]; rfl
    have q1 := (hh 1 3 rfl).2
    have q2 := (hh 2 3 rfl).2
    obtain ⟨e0, he0, hat⟩ : ∃ e0 : Int, 0 ≤ e0 ∧ atI [D.int 0, D.int 5, D.int 3880] (dI hd 1) = some (.int e0) := by
      rcases (show dI hd 1 = 0 ∨ dI hd 1 = 1 ∨ dI hd 1 = 2 by omega) with h | h | h <;> rw [h]
      · exact ⟨0, by decide, rfl⟩
      · exact ⟨5, by decide, rfl⟩
      · exact ⟨3880, by decide, rfl⟩
    refine dss_st (ds_set 3 sc_built.nd (df_lst da_nil).de ?_)
    refine dss_st (ds_own 4 sc_built.nd (df_lst da_nil) ?_)
    refine dss_st (ds_own 5 sc_built.nd (df_lst da_nil) ?_)
    refine dss_st (ds_set 6 sc_built.nd (de_ixL (df_lst (da_cons de_int (da_cons de_int (da_cons de_int da_nil)))).de (de_ixL (de_var 1) de_int (atI_nat (hha 1 3 rfl))) hat) ?_)
    refine dss_st (ds_range1 7 (1 + (dI hd 2).toNat) (fun k ρ => ∃ (ps : List Pr) (cr fl : List W) (e : Int), 0 ≤ e ∧ Bui ps cr m e ∧ (0 < k → ∃ p ∈ ps, p.2.isSome = true) ∧ ps.length ≤ k * 104 ∧ cr.length ≤ k ∧ fl.length ≤ k ∧
        ρ = [.dat (.lst (ns.map .int)), .dat (.lst (hd.map .int)), .dat (.int m), .dat (.lst (ps.map prD)), .own (.lst (cr.map pD)), .own (.lst (fl.map pD)), .dat (.int e), .emp, .emp, .emp, .emp, .emp, .emp])
      sc_built.nd T.range PassesOwn.never rfl (de_add de_int (de_ixL (de_var 1) de_int (atI_nat (hha 2 3 rfl)))) (by omega) (by omega) (Up.intro ⟨[], [], [], e0, he0, bui0 m e0, (by intro h; omega), Nat.zero_le _, Nat.zero_le _, Nat.zero_le _, rfl⟩ (by walk_at "le")) ?_ ?_)
    · rintro k ρ' hk ⟨ps, cr, fl, e, he, B, hne, hpl, hcl, hfl, rfl⟩
      refine ⟨(by intro m h; cases h), ?_⟩
      refine dss_st (ds_set 8 sc_built.nd (df_callF c_digits (hr.mono (by decide)) pass0 (da_cons (de_callF c_cell (hr.mono (by decide)) pass0 (da_cons (de_var 0) (da_cons ((de_add de_int (de_var 7)).eq (d' := .int (((2 + k : Nat) : Int))) (congrArg D.int (by omega))) da_nil)) (d := .int (cellN ns (2 + k))) ⟨ns, 2 + k, rfl, rfl⟩) (da_cons (df_lst (da_cons de_int (da_cons de_int (da_cons de_int (da_cons de_int da_nil))))).de (da_cons ((de_add de_int (de_var 7)).eq (d' := .int (((10 + k : Nat) : Int))) (congrArg D.int (by omega))) da_nil))) (m := .lst ((digits (cellN ns (2 + k)) sz4 ((10 + k : Nat) : Int)).map .int)) ⟨_, sz4, 10 + k, rfl, by decide, by omega, by decide, rfl⟩).de ?_)
      have hg : ∀ (i : Nat) (s : Int), sz4[i]? = some s → _ := fun i s h => dig_get (cellN ns (2 + k)) ((10 + k : Nat) : Int) (by decide) i (s := s) h
      have ha : ∀ (i : Nat) (s : Int), sz4[i]? = some s → _ := fun i s h => dig_at (cellN ns (2 + k)) ((10 + k : Nat) : Int) (by decide) i (s := s) h
      generalize digits (cellN ns (2 + k)) sz4 ((10 + k : Nat) : Int) = dg at hg ha ⊢
      have g0 := (hg 0 4 rfl).2
      have g1 := (hg 1 4 rfl).2
      have g2 := (hg 2 3 rfl).2
      have g3 := (hg 3 60 rfl).2
      obtain ⟨b, hb, hbe⟩ : ∃ b : Int, b = e + dI dg 0 + (if decide ((0 : Int) < (k : Int)) = true then 1 else 0) ∧ e ≤ b := by
        refine ⟨_, rfl, ?_⟩
        split <;> omega
      refine dss_st (ds_set 9 sc_built.nd (((de_add (de_add (de_var 6) (de_ixL (de_var 8) de_int (atI_nat (ha 0 4 rfl)))) (de_intB T.int (de_cmp c_gt (de_var 7) de_int)))).eq (d' := .int b) (congrArg D.int hb.symm)) ?_)
      refine dss_st (ds_set 10 sc_built.nd ((de_add de_int (de_ixL (de_var 8) de_int (atI_nat (ha 1 4 rfl)))).eq (d' := .int (((1 + (dI dg 1).toNat : Nat) : Int))) (congrArg D.int (by omega))) ?_)
      refine dss_st (ds_cut (fun ρ => ∃ size : Nat, 1 ≤ size ∧ size ≤ 25 ∧ ρ = [.dat (.lst (ns.map .int)), .dat (.lst (hd.map .int)), .dat (.int m), .dat (.lst (ps.map prD)), .own (.lst (cr.map pD)), .own (.lst (fl.map pD)), .dat (.int e), .dat (.int k), .dat (.lst (dg.map .int)), .dat (.int b), .dat (.int size), .emp, .emp])
        (ds_if (dt_cmp c_eq (de_ixL (de_var 1) de_int (atI_nat (hha 3 16 rfl))) de_int) (fun hz => ?_) (fun hz => ?_)) ?_)
      · refine dss_st (ds_set 10 sc_built.nd de_int ?_)
        exact dss_nil (Up.intro ⟨25, by decide, by decide, rfl⟩ (by walk_at "le"))
      · exact dss_nil (Up.intro ⟨1 + (dI dg 1).toNat, by omega, by omega, rfl⟩ (by walk_at "le"))
      rintro ρ' ⟨size, hs0, hs1, rfl⟩
      have hms : m * size ≤ 100 := Nat.le_trans (Nat.mul_le_mul hm1 hs1) (by decide)
      refine dss_st (ds_ownN 11 (M := fun m' => ∃ mp : List Pr, m' = .lst (mp.map prD) ∧ Clu mp m b size (dI dg 2).toNat) sc_built.nd
        (df_callNF (c_cluster ns k b size m (dI dg 2).toNat (by omega) hs0 hs1 hm0 hm1 (by omega)) (hr.mono (by decide)) pass0 (da_cons (de_var 0) (da_cons (de_var 7) (da_cons (de_var 9) (da_cons (de_var 10) (da_cons (de_var 2) (da_cons ((de_ixL (de_var 8) de_int (atI_nat (ha 2 3 rfl))).eq (d' := .int ((((dI dg 2).toNat : Nat) : Int))) (congrArg D.int (by omega))) da_nil)))))) rfl
          (fun out h => by obtain ⟨ps, rfl, h⟩ := h; exact ⟨_, rfl, ps, rfl, h⟩)) ?_)
      rintro m' ⟨mp, rfl, C⟩
      refine dss_freeze 11 (m := .lst (mp.map prD)) ?_
      refine dss_st (ds_cut (fun ρ => ∃ lo : List Pr, (∀ p ∈ lo, e ≤ b - 1 ∧ p.1.1 ≤ b - 1 ∧ b - 1 < p.1.2 ∧ p.2 = some (b - 1)) ∧ lo.length ≤ m ∧ lo.length ≤ 2 ∧ ρ = [.dat (.lst (ns.map .int)), .dat (.lst (hd.map .int)), .dat (.int m), .dat (.lst (ps.map prD)), .own (.lst (cr.map pD)), .own (.lst (fl.map pD)), .dat (.int e), .dat (.int k), .dat (.lst (dg.map .int)), .dat (.int b), .dat (.int size), .dat (.lst ((mp ++ lo).map prD)), .emp])
        (ds_if (dt_cmp c_gt (de_var 9) (de_var 6)) (fun hz => ?_) (fun hz => ?_)) ?_)
      · have hz : e < b := of_decide_eq_true hz
        have hll := loose_len (ns := ns) (k := k) (place := b - 1) (m := m)
        refine dss_st (ds_set 11 sc_built.nd ((df_cat (de_var 11) (df_callF c_loose (hr.mono (by decide)) pass0 (da_cons (de_var 0) (da_cons (de_var 7) (da_cons (de_sub (de_var 9) de_int) (da_cons (de_var 2) da_nil)))) (m := .lst ((looseL ns k (b - 1) m).map prD)) ⟨ns, k, b - 1, m, rfl, by omega, hm1, rfl⟩).de (by rw [List.length_map, List.length_map, sizeLine_eq, C.len]; omega)).de.eq (d' := .lst ((mp ++ looseL ns k (b - 1) m).map prD)) (by rw [List.map_append]; rfl)) ?_)
        refine dss_nil (Up.intro ⟨looseL ns k (b - 1) m, fun p hp => ?_, hll.1, hll.2, rfl⟩ (by walk_at "le"))
        have := loose_ok (show 0 ≤ b - 1 by omega) p hp
        exact ⟨by omega, this⟩
      · exact dss_nil (Up.intro ⟨[], (by intro p h; cases h), Nat.zero_le _, Nat.zero_le _, rfl⟩ (by rw [List.append_nil]; walk_at "le"))
      rintro ρ' ⟨lo, hlo, hlm, hl2, rfl⟩
      have hml : (mp ++ lo).length ≤ 104 := by rw [List.length_append, C.len]; omega
      have m1 := Int.emod_nonneg (dI dg 3) (b := ((ps.map prD).length : Int) + 1) (by omega)
      obtain ⟨n, hn⟩ := Int.eq_ofNat_of_zero_le m1
      refine dss_st (ds_set 12 sc_built.nd ((de_mod (de_int1 T.int (de_ixL (de_var 8) de_int (atI_nat (ha 3 60 rfl)))) (de_add (de_lenL T.len (de_var 3)) de_int) (by omega)).eq (d' := .int ((n : Int))) (congrArg D.int (hn))) ?_)
      have hcut : (D.lst (DL.cutD (ps.map prD) none (some (n : Int)) ++ (mp ++ lo).map prD ++ DL.cutD (ps.map prD) (some (n : Int)) none)) = .lst ((ps.take n ++ (mp ++ lo) ++ ps.drop n).map prD) := by
        rw [cut_map, cut_map, cutL_take, cutL_drop, ← List.map_append, ← List.map_append]
      have hplen : (ps.take n ++ (mp ++ lo) ++ ps.drop n).length ≤ (k + 1) * 104 := by
        rw [(mid_perm ps (mp ++ lo) n).length_eq, List.length_append]; omega
      refine dss_st (ds_set 3 sc_built.nd ((df_cat (df_cat (df_slL (de_var 3) do_none (do_some (de_var 12))).de (de_var 11) ?_).de (df_slL (de_var 3) (do_some (de_var 12)) do_none).de ?_).de.eq hcut) ?_)
      · rw [cut_map, List.length_map, List.length_map, sizeLine_eq]; have := cutL_len ps none (some (n : Int)); omega
      · rw [cut_map, cut_map, List.length_append, List.length_map, List.length_map, List.length_map, sizeLine_eq]; have := cutL_len ps none (some (n : Int)); have := cutL_len ps (some (n : Int)) none; omega
      refine dss_st (ds_set 6 sc_built.nd (de_add (de_var 9) (de_var 10)) ?_)
      have B' := B.step he hm0 hs0 C hbe hlo hlm (mid_perm ps (mp ++ lo) n)
      have hsome : ∃ p ∈ ps.take n ++ (mp ++ lo) ++ ps.drop n, p.2.isSome = true := by
        have hex : ∃ p ∈ mp, p.2.isSome = true := by
          rcases Classical.em (∃ p ∈ mp, p.2.isSome = true) with h | h
          · exact h
          · exfalso
            have h1 : nN (mp.map (·.2)) = (mp.map (·.2)).length := by
              unfold nN
              rw [List.filter_eq_self.mpr]
              intro o ho
              obtain ⟨p, hp, rfl⟩ := List.mem_map.mp ho
              cases hq : p.2 with
              | none => rfl
              | some t => exact absurd ⟨p, hp, by rw [hq]; rfl⟩ h
            rw [C.non, List.length_map, C.len] at h1
            have : 1 * 1 ≤ m * size := Nat.mul_le_mul hm0 hs0
            omega
        obtain ⟨p, hp, hq⟩ := hex
        exact ⟨p, (mid_perm ps (mp ++ lo) n).mem_iff.mpr (by simp [hp]), hq⟩
      refine dss_st (ds_if (dt_cmp c_gt (de_ixL (de_var 8) de_int (atI_nat (ha 2 3 rfl))) de_int) (fun hz => ?_) (fun hz => ?_))
      · have hz : 0 < dI dg 2 := of_decide_eq_true hz
        rw [if_pos (by omega)] at B'
        refine dss_st (ds_append 4 (d := pD (b, b + (size : Int))) (de_tup (da_cons (de_var 9) (da_cons (de_var 6) da_nil))) ?_ ?_)
        · rw [List.length_map, sizeLine_eq]; omega
        · exact dss_nil (dss_nil (Up.intro ⟨_, cr ++ [(b, b + (size : Int))], fl, b + (size : Int), by omega, B', fun _ => hsome, hplen, by rw [List.length_append]; simp; omega, by omega, rfl⟩ (by simp only [List.map_append, List.map_cons, List.map_nil]; walk_at "le")))
      · have hz : ¬ 0 < dI dg 2 := of_decide_eq_false hz
        rw [if_neg (by omega)] at B'
        refine dss_st (ds_append 5 (d := pD (b, b + (size : Int))) (de_tup (da_cons (de_var 9) (da_cons (de_var 6) da_nil))) ?_ ?_)
        · rw [List.length_map, sizeLine_eq]; omega
        · exact dss_nil (dss_nil (Up.intro ⟨_, cr, fl ++ [(b, b + (size : Int))], b + (size : Int), by omega, B', fun _ => hsome, hplen, by omega, by rw [List.length_append]; simp; omega, rfl⟩ (by simp only [List.map_append, List.map_cons, List.map_nil]; walk_at "le")))
    · rintro ρ' ⟨ps, cr, fl, e, he, B, hne, hpl, hcl, hfl, rfl⟩
      refine dss_freeze 4 (m := .lst (cr.map pD)) ?_
      refine dss_freeze 5 (m := .lst (fl.map pD)) ?_
      exact dss_st (ds_ret (de_tup (da_cons (de_var 3) (da_cons (de_var 4) (da_cons (de_var 5) da_nil)))) ⟨ps, cr, fl, e, rfl, B, hne (by omega), by omega, by omega, by omega⟩)
end
end K30
set_option Elab.async false
set_option linter.all false
set_option maxRecDepth 100000
set_option maxHeartbeats 4000000
namespace K30
open PySem PySem.Spec PyProof.Rows L2 DL
local macro_rules | `(tactic| walk_at "le") => `(tactic| (first | exact trivial | exact ⟨.inl rfl, by walk_at "le"⟩ | exact ⟨.inr ⟨rfl, rfl⟩, by walk_at "le"⟩))
abbrev Pap := List (Option Int) × List W
def papD (p : Pap) : D := .tup [tsD p.1, wsD p.2]
def putL (ts : List (Option Int)) (a : Nat) (e : Option Int) : List (Option Int) := ts.take a ++ [e] ++ ts.drop (a + 1)
def noneAt (ts : List (Option Int)) : Nat := ts.findIdx Option.isNone
def sevenL (ws : List W) (ts : List (Option Int)) (a o : Nat) : List (Option Int) := [some ((ws.getD a (0, 0)).1 - 1), some (ws.getD a (0, 0)).2, some 3999, ts.getD o none, none, some (ws.getD a (0, 0)).1, some ((ws.getD a (0, 0)).2 - 1)]
def fiveL (ts : List (Option Int)) : List (List (Option Int)) := [cutL ts none (some (-1)), ts ++ [none], ts ++ [some 3999], cutL ts (some 1) none, ts.reverse]
def lastL (ws : List W) (ts : List (Option Int)) : List (List (Option Int)) := if ts.any Option.isNone = true then [putL ts (noneAt ts) (some (ws.getD (noneAt ts) (0, 0)).1)] else []
def entriesL (ws : List W) (ts : List (Option Int)) (a o : Nat) : List (List (Option Int)) :=
  fiveL ts ++ (sevenL ws ts a o).map (putL ts a) ++ [(ts.set a (ts.getD o none)).set o (ts.getD a none)] ++ lastL ws ts
def REntries (ds : List D) (out : Out) : Prop := ∃ (ws : List W) (ts : List (Option Int)) (dg : List Int) (d0 d1 : Int), ds = [wsD ws, tsD ts, .lst (dg.map .int)] ∧ ws.length = ts.length ∧ 0 < ts.length ∧ ts.length ≤ 1000 ∧ dg[0]? = some d0 ∧ dg[1]? = some d1 ∧ 0 ≤ d0 ∧ 0 ≤ d1 ∧
  out = .new (.lst ((entriesL ws ts (d0 % (ts.length : Int)).toNat (d1 % (ts.length : Int)).toNat).map tsD))
theorem any_none (ts : List (Option Int)) : ((D.pys (ts.map tD)).any fun z => PyData.eqv z D.non.py) = ts.any Option.isNone := by
  induction ts with
  | nil => rfl
  | cons o r ih =>
    simp only [List.map_cons, D.pys, List.any_cons, ih]
    cases o <;> simp [tD, D.py, PyData.eqv]
theorem ts_oks (ts : List (Option Int)) : D.oks (ts.map tD) = true := oks_map (fun o => by cases o <;> rfl) ts
theorem ws_oks (ws : List W) : D.oks (ws.map pD) = true := oks_map (fun o => rfl) ws
theorem ts_deps (ts : List (Option Int)) : D.deps (ts.map tD) ≤ 0 := deps_map (fun o => by cases o <;> exact Nat.le_refl _) ts
theorem ws_deps (ws : List W) : D.deps (ws.map pD) ≤ 1 := deps_map (n := 1) (fun o => by simp [pD, D.dep, D.deps]) ws
theorem put_map (ts : List (Option Int)) (a : Nat) (e : Option Int) : DL.cutD (ts.map tD) none (some (a : Int)) ++ [tD e] ++ DL.cutD (ts.map tD) (some ((a + 1 : Nat) : Int)) none = (putL ts a e).map tD := by
  rw [cut_map, cut_map, cutL_take, cutL_drop]
  unfold putL
  simp only [List.map_append, List.map_cons, List.map_nil]
theorem none_shaped (ts : List (Option Int)) : SeqAt.shaped (.list (D.pys (ts.map tD))) = true := by
  have h1 : PyData.canLayAll0 (D.pys (ts.map tD)) = true := by
    induction ts with
    | nil => rfl
    | cons o r ih =>
      simp only [List.map_cons, D.pys, PyData.canLayAll0, ih, Bool.and_true]
      cases o <;> rfl
  have h2 : (PyData.list (D.pys (ts.map tD))).depth ≤ 64 := by
    have := D.py_dep (tsD ts)
    have h3 : (tsD ts).dep ≤ 1 := by have := ts_deps ts; simp only [D.dep]; omega
    have h4 : (tsD ts).py.depth ≤ 64 := by omega
    exact h4
  show (PyData.canLay0 (.list (D.pys (ts.map tD))) && decide ((PyData.list (D.pys (ts.map tD))).depth ≤ 64)) = true
  rw [Bool.and_eq_true]
  exact ⟨by simp only [PyData.canLay0]; exact h1, decide_eq_true h2⟩
theorem noneAt_ok {ts : List (Option Int)} (h : ts.any Option.isNone = true) : noneAt ts < ts.length ∧ ts[noneAt ts]? = some none ∧ ∀ m o, m < noneAt ts → ts[m]? = some o → ∃ t, o = some t := by
  have h1 : noneAt ts < ts.length := List.findIdx_lt_length.mpr (by simpa using h)
  refine ⟨h1, ?_, fun m o hm ho => ?_⟩
  · have h2 := List.findIdx_getElem (w := h1)
    rw [List.getElem?_eq_getElem h1]
    exact congrArg some (Option.isNone_iff_eq_none.mp h2)
  · have h2 := List.not_of_lt_findIdx hm
    obtain ⟨hl, he⟩ := List.getElem?_eq_some_iff.mp ho
    rw [he] at h2
    cases o with
    | none => cases h2
    | some t => exact ⟨t, rfl⟩
theorem getD_of {α : Type} {xs : List α} {i : Nat} {x y : α} (h : xs[i]? = some x) : xs.getD i y = x := by rw [List.getD_eq_getElem?_getD, h]; rfl
section
variable {P : Program} {w : World} {K : PySem.W.Frag} {mg : Str → Option Value} {base : Heap}
theorem ok_entries {f : Addr} {fd : FuncData} (F : Fun K "_law_entries" "_law_entries" s_entries f fd) (T : Bn mg) : FnOk P w K mg base CX0 1 f fd ["windows", "ticks", "digits"] (spD K REntries) := by
  refine dfn F sc_entries (fun ds out h => ?_) (fun ds out h cdv A outer s H E hr => ?_)
  · obtain ⟨_, _, _, _, _, rfl, _, _, _, _, _, _, _, rfl⟩ := h; exact ⟨rfl, nofun⟩
  · obtain ⟨ws, ts, dg, d0, d1, rfl, hl, h0, h1, hd0, hd1, hp0, hp1, rfl⟩ := h
    have hu := roomU0 hr (show 1 ≤ 100 by decide)
    have e0 := Int.emod_nonneg d0 (b := (ts.length : Int)) (by omega)
    have e0' := Int.emod_lt_of_pos d0 (b := (ts.length : Int)) (by omega)
    have e1 := Int.emod_nonneg d1 (b := (ts.length : Int)) (by omega)
    have e1' := Int.emod_lt_of_pos d1 (b := (ts.length : Int)) (by omega)
    obtain ⟨a, ha⟩ := Int.eq_ofNat_of_zero_le e0
    obtain ⟨o, ho⟩ := Int.eq_ofNat_of_zero_le e1
    rw [ha] at e0'; rw [ho] at e1'
    rw [ha, ho, Int.toNat_natCast, Int.toNat_natCast]
    have hal : a < ts.length := by omega
    have hol : o < ts.length := by omega
    obtain ⟨win, hw⟩ : ∃ x, ws[a]? = some x := ⟨_, List.getElem?_eq_getElem (by omega)⟩
    obtain ⟨ta, hta⟩ : ∃ x, ts[a]? = some x := ⟨_, List.getElem?_eq_getElem hal⟩
    obtain ⟨to, hto⟩ : ∃ x, ts[o]? = some x := ⟨_, List.getElem?_eq_getElem hol⟩
    have iw : atI (ws.map pD) (a : Int) = some (pD win) := atI_nat (by rw [List.getElem?_map, hw]; rfl)
    have ia : atI (ts.map tD) (a : Int) = some (tD ta) := atI_nat (by rw [List.getElem?_map, hta]; rfl)
    have io : atI (ts.map tD) (o : Int) = some (tD to) := atI_nat (by rw [List.getElem?_map, hto]; rfl)
    refine dss_st (ds_set 3 sc_entries.nd ((de_mod (de_int1 T.int (de_ixL (de_var 2) de_int (d := .int d0) (atI_nat (by rw [List.getElem?_map, hd0]; rfl)))) (de_lenL T.len (de_var 1)) (by rw [List.length_map]; omega)).eq (d' := .int ((a : Int))) (congrArg D.int (by rw [List.length_map]; exact ha))) ?_)
    refine dss_st (ds_set 4 sc_entries.nd ((de_mod (de_int1 T.int (de_ixL (de_var 2) de_int (d := .int d1) (atI_nat (by rw [List.getElem?_map, hd1]; rfl)))) (de_lenL T.len (de_var 1)) (by rw [List.length_map]; omega)).eq (d' := .int ((o : Int))) (congrArg D.int (by rw [List.length_map]; exact ho))) ?_)
    refine dss_st (ds_own 5 sc_entries.nd (((df_lst (da_cons (df_slL (de_var 1) do_none (do_some (de_neg de_int))).de (da_cons (df_cat (de_var 1) (df_lst (da_cons de_non da_nil)).de ?_).de (da_cons (df_cat (de_var 1) (df_lst (da_cons de_int da_nil)).de ?_).de (da_cons (df_slL (de_var 1) (do_some de_int) do_none).de (da_cons (df_rev (de_var 1)).de da_nil))))))).eq (m' := .lst ((fiveL ts).map tsD)) ?_) ?_)
    · show _ ≤ _
      rw [List.length_map, sizeLine_eq]; show ts.length + 1 ≤ _; omega
    · show _ ≤ _
      rw [List.length_map, sizeLine_eq]; show ts.length + 1 ≤ _; omega
    · unfold fiveL
      simp only [MO.d, cut_map, List.map_cons, List.map_nil, tsD, List.map_append, List.map_reverse]; rfl
    have h7 : ∀ k, (fiveL ts ++ ((sevenL ws ts a o).take k).map (putL ts a)).length ≤ 12 := by
      intro k
      rw [List.length_append, List.length_map, List.length_take]
      show 5 + min k 7 ≤ 12; omega
    have e7 : (sevenL ws ts a o).map tD = [.int (win.1 - 1), .int win.2, .int 3999, tD to, .non, .int win.1, .int (win.2 - 1)] := by
      unfold sevenL
      rw [getD_of hw, getD_of hto]; rfl
    refine dss_st (ds_each 6 (items := (sevenL ws ts a o).map tD) (fun k ρ => ρ = [.dat (wsD ws), .dat (tsD ts), .dat (.lst (dg.map .int)), .dat (.int (a : Int)), .dat (.int (o : Int)), .own (.lst ((fiveL ts ++ ((sevenL ws ts a o).take k).map (putL ts a)).map tsD)), .emp, .emp, .emp])
      sc_entries.nd PassesOwn.never rfl (DE.eq (d := .lst [.int (win.1 - 1), .int win.2, .int 3999, tD to, .non, .int win.1, .int (win.2 - 1)]) (df_lst (da_cons (de_sub (de_ixT (de_ixL (de_var 0) (de_var 3) iw) de_int (d := .int win.1)) de_int) (da_cons (de_ixT (de_ixL (de_var 0) (de_var 3) iw) de_int) (da_cons de_int (da_cons (de_ixL (de_var 1) (de_var 4) io) (da_cons de_non (da_cons (de_ixT (de_ixL (de_var 0) (de_var 3) iw) de_int) (da_cons (de_sub (de_ixT (de_ixL (de_var 0) (de_var 3) iw) de_int (d := .int win.2)) de_int) da_nil)))))))).de (by rw [e7])) (Up.intro rfl (by simp only [List.take_zero, List.map_nil, List.append_nil]; walk_at "le")) ?_ ?_)
    · rintro k y ρ' hy rfl
      obtain ⟨en, hen, rfl⟩ := pd_get hy
      refine ⟨(by intro m h; cases h), ?_⟩
      refine dss_st (ds_append 5 (d := tsD (putL ts a en)) (DE.eq ((df_cat (df_cat (df_slL (de_var 1) do_none (do_some (de_var 3))).de (df_lst (da_cons (de_var 6) da_nil)).de ?_).de (df_slL (de_var 1) (do_some ((de_add (de_var 3) de_int).eq (d' := .int (((a + 1 : Nat) : Int))) (congrArg D.int (by omega)))) do_none).de ?_).de) (congrArg D.lst (put_map ts _ _))) ?_ ?_)
      · rw [cut_map, List.length_map, sizeLine_eq]; have := cutL_len ts none (some (a : Int)); show (cutL ts none (some (a : Int))).length + 1 ≤ _; omega
      · rw [cut_map, cut_map, List.length_append, List.length_map, List.length_map, sizeLine_eq]; have := cutL_len ts none (some (a : Int)); have := cutL_len ts (some ((a + 1 : Nat) : Int)) none; show (cutL ts none (some (a : Int))).length + 1 + _ ≤ _; omega
      · rw [List.length_map, sizeLine_eq]; have := h7 k; omega
      · exact dss_nil (Up.intro rfl (by rw [take_succ' hen]; simp only [List.map_append, List.map_cons, List.map_nil, List.append_assoc]; walk_at "le"))
    rintro ρ' rfl
    rw [take_all']
    refine dss_st (ds_own 7 sc_entries.nd (df_listOfL T.list (de_var 1)) ?_)
    refine dss_st (ds_setix 7 (ds := ts.map tD) (j := a) (de_ixL (de_var 1) (de_var 4) io) (de_var 3) (by unfold ixN; rw [List.length_map]; simp; omega) ?_)
    refine dss_st (ds_setix 7 (ds := (ts.map tD).set a (tD to)) (j := o) (de_ixL (de_var 1) (de_var 3) ia) (de_var 4) (by unfold ixN; rw [List.length_set, List.length_map]; simp; omega) ?_)
    have hsw : ((ts.map tD).set a (tD to)).set o (tD ta) = ((ts.set a (ts.getD o none)).set o (ts.getD a none)).map tD := by
      rw [getD_of hto, getD_of hta, List.map_set, List.map_set]
    rw [hsw]
    refine dss_freeze 7 (m := .lst (((ts.set a (ts.getD o none)).set o (ts.getD a none)).map tD)) ?_
    refine dss_st (ds_append 5 (d := tsD ((ts.set a (ts.getD o none)).set o (ts.getD a none))) (de_var 7) ?_ ?_)
    · rw [List.length_map, sizeLine_eq, List.length_append, List.length_map]; show 5 + 7 < _; omega
    have hin : CmpD (cxOf CX0 P w K mg base ["windows", "ticks", "digits", "at", "other", "told", "entry", "swapped", "place"] "_law_entries" (defScope s_entries) f cdv A outer s H E).nox .In .non (tsD ts) (ts.any Option.isNone) := by
      have q := c_inP (X := (cxOf CX0 P w K mg base ["windows", "ticks", "digits", "at", "other", "told", "entry", "swapped", "place"] "_law_entries" (defScope s_entries) f cdv A outer s H E).nox) (d := .non) (ds := ts.map tD) rfl (ts_oks ts) (by
        have := roomU0 hr (show 2 ≤ 100 by decide)
        have h2 : min (PyData.depthAll (D.pys (ts.map tD))) D.non.py.depth ≤ 0 := Nat.min_le_right _ _
        show (A.deeper (envOfC "_law_entries" (defScope s_entries) s.heap.objs.size f cdv)).units + 1 + _ < cLine
        omega)
      rw [any_none] at q
      exact q
    refine dss_st (ds_if (dt_cmp hin de_non (de_var 1)) (fun hz => ?_) (fun hz => ?_))
    · obtain ⟨n1, n2, n3⟩ := noneAt_ok hz
      obtain ⟨wp, hwp⟩ : ∃ x, ws[noneAt ts]? = some x := ⟨_, List.getElem?_eq_getElem (by omega)⟩
      have iwp : atI (ws.map pD) (noneAt ts : Int) = some (pD wp) := atI_nat (by rw [List.getElem?_map, hwp]; rfl)
      refine dss_st (ds_set 8 sc_entries.nd (de_index (j := noneAt ts) (z := .non) (roomU0 hr (show 65 ≤ 100 by decide)) (de_var 1) de_non rfl (ts_oks ts) rfl (none_shaped ts) (by rw [List.getElem?_map, n2]; rfl) rfl (by
        intro m z hm hz'
        obtain ⟨x, hx, rfl⟩ := pd_get hz'
        obtain ⟨t, rfl⟩ := n3 m x hm hx
        rfl)) ?_)
      refine dss_st (ds_append 5 (d := tsD (putL ts (noneAt ts) (some wp.1))) (DE.eq ((df_cat (df_cat (df_slL (de_var 1) do_none (do_some (de_var 8))).de (df_lst (da_cons (de_ixT (de_ixL (de_var 0) (de_var 8) iwp) de_int) da_nil)).de ?_).de (df_slL (de_var 1) (do_some ((de_add (de_var 8) de_int).eq (d' := .int (((noneAt ts + 1 : Nat) : Int))) (congrArg D.int (by omega)))) do_none).de ?_).de) (congrArg D.lst (put_map ts _ _))) ?_ ?_)
      · rw [cut_map, List.length_map, sizeLine_eq]; have := cutL_len ts none (some (noneAt ts : Int)); show (cutL ts none (some (noneAt ts : Int))).length + 1 ≤ _; omega
      · rw [cut_map, cut_map, List.length_append, List.length_map, List.length_map, sizeLine_eq]; have := cutL_len ts none (some (noneAt ts : Int)); have := cutL_len ts (some ((noneAt ts + 1 : Nat) : Int)) none; show (cutL ts none (some (noneAt ts : Int))).length + 1 + _ ≤ _; omega
      · rw [List.length_append, List.length_map, sizeLine_eq, List.length_append, List.length_map]; show 5 + 7 + 1 < _; omega
      · refine dss_nil (dss_st (ds_retOwn 5 ?_))
        show MO.lst _ = MO.lst _
        unfold entriesL lastL
        rw [if_pos hz, getD_of hwp]
        simp only [List.map_append, List.map_cons, List.map_nil]
    · refine dss_nil (dss_st (ds_retOwn 5 ?_))
      show MO.lst _ = MO.lst _
      unfold entriesL lastL
      rw [if_neg (by rw [hz]; decide)]
      simp only [List.map_append, List.map_cons, List.map_nil, List.append_nil]
end
end K30
set_option Elab.async false
set_option linter.all false
set_option maxRecDepth 100000
set_option maxHeartbeats 1000000
namespace K30
open PySem PySem.Spec PyProof.Rows L2 DL
local macro_rules | `(tactic| walk_at "le") => `(tactic| (first | exact trivial | exact ⟨.inl rfl, by walk_at "le"⟩ | exact ⟨.inr ⟨rfl, rfl⟩, by walk_at "le"⟩))
def sPut (cr : List W) (k : Nat) (o : W) : List W := cr.take k ++ [o] ++ cr.drop (k + 1)
def sixL (s : W) : List W := [(s.1, s.2 + 1), (s.1 - 1, s.2), (s.1 + 1, s.2), (s.1, s.2 - 1), (s.2, s.1), (-1, s.2)]
def joinL (ts : List (Option Int)) (cr : List W) (k : Nat) : List Pap := if 0 < k then [(ts, cr.take (k - 1) ++ [((cr.getD (k - 1) (0, 0)).1, (cr.getD k (0, 0)).2)] ++ cr.drop (k + 1))] else []
def othersL (ts : List (Option Int)) (cr : List W) (k : Nat) : List Pap := (sixL (cr.getD k (0, 0))).map (fun o => (ts, sPut cr k o)) ++ joinL ts cr k
def tenL (cr : List W) (m : Nat) (ts : List (Option Int)) : List Pap := [(ts, []), (ts, cutL cr (some 1) none), (ts, cutL cr none (some (-1))), (ts, cr.reverse), (ts, cr ++ [(3985, 3990)]), (ts, cr ++ [(3991, 3990)]), (emptiedL m ts, cr ++ [(3991, 3990)]), (ts, cr ++ [(3990, 3990)]), (emptiedL (nN ts) ts, psort (cr ++ cr)), (emptiedL 1 ts, cr)]
def stretchesL (cr fl : List W) (m : Nat) (ts : List (Option Int)) : List Pap := tenL cr m ts ++ fl.map (fun s => (ts, psort (cr ++ [s]))) ++ (List.range cr.length).flatMap (othersL ts cr)
def RStretches (ds : List D) (out : Out) : Prop := ∃ (cr fl : List W) (m : Nat) (ts : List (Option Int)), ds = [wsD cr, wsD fl, .int m, tsD ts] ∧ cr.length ≤ 3 ∧ fl.length ≤ 3 ∧ ts.length ≤ 1000 ∧ out = .new (.lst ((stretchesL cr fl m ts).map papD))
theorem others_len (ts : List (Option Int)) (cr : List W) (k : Nat) : (othersL ts cr k).length ≤ 7 := by
  unfold othersL joinL sixL
  rw [List.length_append, List.length_map]
  split <;> simp
theorem flat_len (ts : List (Option Int)) (cr : List W) : ∀ k, ((List.range k).flatMap (othersL ts cr)).length ≤ 7 * k
  | 0 => by simp
  | k + 1 => by
    rw [List.range_succ, List.flatMap_append, List.length_append]
    have := flat_len ts cr k
    have := others_len ts cr k
    simp only [List.flatMap_cons, List.flatMap_nil, List.append_nil]
    omega
theorem emptied_len : ∀ (ts : List (Option Int)) (n : Int), (emptiedL n ts).length = ts.length
  | [], _ => rfl
  | none :: r, n => by simp [emptiedL, emptied_len r]
  | some t :: r, n => by
    unfold emptiedL
    split <;> simp [emptied_len r]
theorem psort_len (ps : List W) : (psort ps).length = ps.length := (psort_perm ps).length_eq
def RJudged (ds : List D) (out : Out) : Prop := ∃ (ws : List W) (m : Nat) (pl : List Pap), ds = [wsD ws, .int m, .lst (pl.map papD)] ∧ m ≤ 4 ∧ out = .val (.bl true)
def RPlacedL (ds : List D) (out : Out) : Prop := ∃ (ws : List W) (m : Nat) (ts : List (Option Int)) (tl : List (List (Option Int))), ds = [wsD ws, .int m, tsD ts, .lst (tl.map tsD)] ∧ m ≤ 4 ∧ tl.length ≤ 1000 ∧ out = .val (.bl true)
def RBarred (ds : List D) (out : Out) : Prop := ∃ (ws : List W) (m : Nat) (st : List W) (dg : List Int) (d2 d3 : Int), ds = [wsD ws, .int m, wsD st, .lst (dg.map .int)] ∧ m ≤ 4 ∧ st.length ≤ 1000 ∧ dg[2]? = some d2 ∧ dg[3]? = some d3 ∧ out = .val (.bl true)
theorem kit_bb {K : PySem.W.Frag} {b : Bool} : PySem.W.kitOne K (.type "bool") (.type "bool") = some true := kit_bool (K := K) (g := .bl b) rfl
section
variable {P : Program} {w : World} {K : PySem.W.Frag} {mg : Str → Option Value} {base : Heap}
theorem ok_stretches {f : Addr} {fd : FuncData} (F : Fun K "_law_stretches" "_law_stretches" s_stretches f fd) (T : Bn mg) (c_emptied : Fn P w K mg base CX0 1 "_law_emptied" ["ticks", "many"] (spD K REmptied)) : FnOk P w K mg base CX0 2 f fd ["crowded", "full", "machines", "ticks"] (spD K RStretches) := by
  refine dfn F sc_stretches (fun ds out h => ?_) (fun ds out h cdv A outer s H E hr => ?_)
  · obtain ⟨_, _, _, _, rfl, _, _, _, rfl⟩ := h; exact ⟨rfl, nofun⟩
  · obtain ⟨cr, fl, m, ts, rfl, hc, hf, ht, rfl⟩ := h
    have hS : ∀ n, n ≤ 1000 → n ≤ sizeLine := by intro n h; rw [sizeLine_eq]; omega
    have hS' : ∀ n, n ≤ 1000 → n < sizeLine := by intro n h; rw [sizeLine_eq]; omega
    refine dss_st (ds_set 4 sc_stretches.nd ((de_lenL T.len (df_lc1 5 (items := ts) (f := tD) (fun o => (tD o).isNon) tD rfl sc_stretches.nd (di_list (de_var 3)) rfl (hS _ ht)
      (fun x hx s' H' C cl fp => ⟨dts_one (dt_cmp c_isN (de_var 5) de_non), fun _ => de_var 5⟩)).de).eq (d' := .int (nN ts : Int)) (congrArg D.int (by rw [nN_list]))) ?_)
    have eN : ∀ (n : Int) {ts : List (Option Int)}, REmptied [tsD ts, .int n] (.new (.lst ((emptiedL n ts).map tD))) := fun n ts => ⟨ts, n, rfl, rfl⟩
    refine dss_st (ds_own 6 sc_stretches.nd (((df_lst (da_cons (de_tup (da_cons (de_var 3) (da_cons (df_lst da_nil).de da_nil))) (da_cons (de_tup (da_cons (de_var 3) (da_cons (df_slL (de_var 0) (do_some de_int) do_none).de da_nil))) (da_cons (de_tup (da_cons (de_var 3) (da_cons (df_slL (de_var 0) do_none (do_some (de_neg de_int))).de da_nil))) (da_cons (de_tup (da_cons (de_var 3) (da_cons (df_rev (de_var 0)).de da_nil))) da_nil)))))).eq (m' := .lst (((tenL cr m ts).take 4).map papD)) ?_) ?_)
    · show MO.lst _ = MO.lst [papD (ts, []), papD (ts, cutL cr (some 1) none), papD (ts, cutL cr none (some (-1))), papD (ts, cr.reverse)]
      simp only [MO.d, cut_map, papD, wsD, List.map_reverse, List.map_nil]
    have e3985 : D.lst (cr.map pD ++ [pD (3985, 3990)]) = wsD (cr ++ [(3985, 3990)]) := by simp only [List.map_append, List.map_cons, List.map_nil, wsD]
    have e3991 : D.lst (cr.map pD ++ [pD (3991, 3990)]) = wsD (cr ++ [(3991, 3990)]) := by simp only [List.map_append, List.map_cons, List.map_nil, wsD]
    have e3990 : D.lst (cr.map pD ++ [pD (3990, 3990)]) = wsD (cr ++ [(3990, 3990)]) := by simp only [List.map_append, List.map_cons, List.map_nil, wsD]
    have e11 : D.lst (cr.map pD ++ cr.map pD) = wsD (cr ++ cr) := by simp only [List.map_append, wsD]
    have l1 : ∀ d : D, (cr.map pD).length + [d].length ≤ sizeLine := fun d => hS _ (by rw [List.length_map]; show cr.length + 1 ≤ _; omega)
    have l2 : (cr.map pD).length + (cr.map pD).length ≤ sizeLine := hS _ (by rw [List.length_map]; omega)
    refine dss_st (ds_append 6 (d := papD (ts, cr ++ [(3985, 3990)])) (de_tup (da_cons (de_var 3) (da_cons (DE.eq (df_cat (de_var 0) (df_lst (da_cons (de_tup (da_cons de_int (da_cons de_int da_nil))) da_nil)).de (l1 _)).de e3985) da_nil))) ?_ ?_)
    · exact hS' 4 (by decide)
    refine dss_st (ds_append 6 (d := papD (ts, cr ++ [(3991, 3990)])) (de_tup (da_cons (de_var 3) (da_cons (DE.eq (df_cat (de_var 0) (df_lst (da_cons (de_tup (da_cons de_int (da_cons de_int da_nil))) da_nil)).de (l1 _)).de e3991) da_nil))) ?_ ?_)
    · exact hS' 5 (by decide)
    refine dss_st (ds_append 6 (d := papD (emptiedL m ts, cr ++ [(3991, 3990)])) (de_tup (da_cons (df_callF c_emptied (hr.mono (by decide)) pass0 (da_cons (de_var 3) (da_cons (de_var 2) da_nil)) (eN m)).de (da_cons (DE.eq (df_cat (de_var 0) (df_lst (da_cons (de_tup (da_cons de_int (da_cons de_int da_nil))) da_nil)).de (l1 _)).de e3991) da_nil))) ?_ ?_)
    · exact hS' 6 (by decide)
    refine dss_st (ds_append 6 (d := papD (ts, cr ++ [(3990, 3990)])) (de_tup (da_cons (de_var 3) (da_cons (DE.eq (df_cat (de_var 0) (df_lst (da_cons (de_tup (da_cons de_int (da_cons de_int da_nil))) da_nil)).de (l1 _)).de e3990) da_nil))) ?_ ?_)
    · exact hS' 7 (by decide)
    refine dss_st (ds_append 6 (d := papD (emptiedL (nN ts) ts, psort (cr ++ cr))) (de_tup (da_cons (df_callF c_emptied (hr.mono (by decide)) pass0 (da_cons (de_var 3) (da_cons (de_var 4) da_nil)) (eN (nN ts))).de (da_cons (df_sortedP (ps := cr ++ cr) T.sorted (DE.eq (df_cat (de_var 0) (de_var 0) l2).de e11)).de da_nil))) ?_ ?_)
    · exact hS' 8 (by decide)
    refine dss_st (ds_append 6 (d := papD (emptiedL 1 ts, cr)) (de_tup (da_cons (df_callF c_emptied (hr.mono (by decide)) pass0 (da_cons (de_var 3) (da_cons de_int da_nil)) (eN 1)).de (da_cons (de_var 0) da_nil))) ?_ ?_)
    · exact hS' 9 (by decide)
    have hbase : ∀ l : List D, l = (tenL cr m ts).map papD → l = (tenL cr m ts ++ (fl.take 0).map (fun s => (ts, psort (cr ++ [s])))).map papD := fun l h => by rw [h]; simp
    refine dss_st (ds_each 7 (items := fl.map pD) (fun k ρ => ρ = [.dat (wsD cr), .dat (wsD fl), .dat (.int m), .dat (tsD ts), .dat (.int (nN ts : Int)), .emp, .own (.lst ((tenL cr m ts ++ (fl.take k).map (fun s => (ts, psort (cr ++ [s])))).map papD)), .emp, .emp, .emp, .emp, .emp])
      sc_stretches.nd PassesOwn.never rfl (de_var 1) (Up.intro rfl (by walk_at "le")) ?_ ?_)
    · rintro k y ρ' hy rfl
      obtain ⟨s0, hs, rfl⟩ := pd_get hy
      have e1 : D.lst (cr.map pD ++ [pD s0]) = wsD (cr ++ [s0]) := by simp only [List.map_append, List.map_cons, List.map_nil, wsD]
      refine ⟨(by intro m h; cases h), ?_⟩
      refine dss_st (ds_append 6 (d := papD (ts, psort (cr ++ [s0]))) (de_tup (da_cons (de_var 3) (da_cons (df_sortedP (ps := cr ++ [s0]) T.sorted (DE.eq (df_cat (de_var 0) (df_lst (da_cons (de_var 7) da_nil)).de (hS _ (by rw [List.length_map]; show cr.length + 1 ≤ _; omega))).de e1)).de da_nil))) ?_ ?_)
      · refine hS' _ ?_
        rw [List.length_map, List.length_append, List.length_map, List.length_take]; show 10 + _ ≤ _; omega
      · exact dss_nil (Up.intro rfl (by rw [take_succ' hs]; simp only [List.map_append, List.map_cons, List.map_nil, List.append_assoc]; walk_at "le"))
    rintro ρ' rfl
    rw [take_all']
    refine dss_st (ds_range1 8 cr.length (fun k ρ => ρ = [.dat (wsD cr), .dat (wsD fl), .dat (.int m), .dat (tsD ts), .dat (.int (nN ts : Int)), .emp, .own (.lst ((tenL cr m ts ++ fl.map (fun s => (ts, psort (cr ++ [s]))) ++ (List.range k).flatMap (othersL ts cr)).map papD)), .emp, .emp, .emp, .emp, .emp])
      sc_stretches.nd T.range PassesOwn.never rfl (de_lenL T.len (de_var 0)) (by rw [List.length_map]) (by omega) (Up.intro rfl (by simp only [List.range_zero, List.flatMap_nil, List.append_nil]; walk_at "le")) ?_ ?_)
    · rintro k ρ' hk rfl
      refine ⟨(by intro m h; cases h), ?_⟩
      obtain ⟨s0, hs⟩ : ∃ s, cr[k]? = some s := ⟨_, List.getElem?_eq_getElem hk⟩
      have hsi : atI (cr.map pD) (k : Int) = some (pD s0) := atI_nat (by rw [List.getElem?_map, hs]; rfl)
      have hfl := flat_len ts cr k
      have hbase : (tenL cr m ts ++ fl.map (fun s => (ts, psort (cr ++ [s]))) ++ (List.range k).flatMap (othersL ts cr)).length ≤ 13 + 7 * 3 := by
        rw [List.length_append, List.length_append, List.length_map]; show 10 + _ + _ ≤ _; omega
      refine dss_st (ds_asg (de_ixL (de_var 0) (de_var 8) hsi) (dg_tup rfl (dgs_cons (dg_name 9 sc_stretches.nd) (dgs_cons (dg_name 10 sc_stretches.nd) dgs_nil))) ?_)
      have putc : ∀ o : W, D.lst (DL.cutD (cr.map pD) none (some (k : Int)) ++ [pD o] ++ DL.cutD (cr.map pD) (some ((k + 1 : Nat) : Int)) none) = wsD (sPut cr k o) := by
        intro o
        rw [cut_map, cut_map, cutL_take, cutL_drop]
        unfold sPut
        simp only [List.map_append, List.map_cons, List.map_nil, wsD]
      have cl1 : ∀ lo hi : Option Int, (DL.cutD (cr.map pD) lo hi).length ≤ 3 := fun lo hi => by rw [cut_map, List.length_map]; have := cutL_len cr lo hi; omega
      refine dss_st (ds_each 11 (items := (sixL s0).map pD) (fun j ρ => ρ = [.dat (wsD cr), .dat (wsD fl), .dat (.int m), .dat (tsD ts), .dat (.int (nN ts : Int)), .emp, .own (.lst ((tenL cr m ts ++ fl.map (fun s => (ts, psort (cr ++ [s]))) ++ (List.range k).flatMap (othersL ts cr) ++ ((sixL s0).take j).map (fun o => (ts, sPut cr k o))).map papD)), .emp, .dat (.int k), .dat (.int s0.1), .dat (.int s0.2), .emp])
        sc_stretches.nd PassesOwn.never rfl (DE.eq (df_lst (da_cons (de_tup (da_cons (de_var 9) (da_cons (de_add (de_var 10) de_int) da_nil))) (da_cons (de_tup (da_cons (de_sub (de_var 9) de_int) (da_cons (de_var 10) da_nil))) (da_cons (de_tup (da_cons (de_add (de_var 9) de_int) (da_cons (de_var 10) da_nil))) (da_cons (de_tup (da_cons (de_var 9) (da_cons (de_sub (de_var 10) de_int) da_nil))) (da_cons (de_tup (da_cons (de_var 10) (da_cons (de_var 9) da_nil))) (da_cons (de_tup (da_cons (de_neg de_int) (da_cons (de_var 10) da_nil))) da_nil))))))).de rfl) (Up.intro rfl (by simp only [List.take_zero, List.map_nil, List.append_nil]; walk_at "le")) ?_ ?_)
      · rintro j y ρ' hy rfl
        obtain ⟨o, ho, rfl⟩ := pd_get hy
        refine ⟨(by intro m h; cases h), ?_⟩
        refine dss_st (ds_append 6 (d := papD (ts, sPut cr k o)) (de_tup (da_cons (de_var 3) (da_cons (DE.eq ((df_cat (df_cat (df_slL (de_var 0) do_none (do_some (de_var 8))).de (df_lst (da_cons (de_var 11) da_nil)).de ?_).de (df_slL (de_var 0) (do_some ((de_add (de_var 8) de_int).eq (d' := .int (((k + 1 : Nat) : Int))) (congrArg D.int (by omega)))) do_none).de ?_).de) (putc o)) da_nil))) ?_ ?_)
        · have := cl1 none (some (k : Int)); exact hS _ (by show _ + 1 ≤ _; omega)
        · have := cl1 none (some (k : Int)); have := cl1 (some ((k + 1 : Nat) : Int)) none; exact hS _ (by rw [List.length_append]; show _ + 1 + _ ≤ _; omega)
        · refine hS' _ ?_
          rw [List.length_map, List.length_append, List.length_map, List.length_take]; show _ + min j 6 ≤ _; omega
        · exact dss_nil (Up.intro rfl (by rw [take_succ' ho]; simp only [List.map_append, List.map_cons, List.map_nil, List.append_assoc]; walk_at "le"))
      rintro ρ' rfl
      rw [take_all']
      have hoth : (sixL s0).map (fun o => (ts, sPut cr k o)) ++ joinL ts cr k = othersL ts cr k := by unfold othersL; rw [getD_of hs]
      refine dss_st (ds_if (dt_cmp c_gt (de_var 8) de_int) (fun hz => ?_) (fun hz => ?_))
      · have hz : 0 < k := by have : (0 : Int) < (k : Int) := of_decide_eq_true hz; omega
        obtain ⟨s1, hs1⟩ : ∃ s, cr[k - 1]? = some s := ⟨_, List.getElem?_eq_getElem (by omega)⟩
        have hs1i : atI (cr.map pD) ((k - 1 : Nat) : Int) = some (pD s1) := atI_nat (by rw [List.getElem?_map, hs1]; rfl)
        have e1 : D.lst (DL.cutD (cr.map pD) none (some ((k - 1 : Nat) : Int)) ++ [pD (s1.1, s0.2)] ++ DL.cutD (cr.map pD) (some ((k + 1 : Nat) : Int)) none) = wsD (cr.take (k - 1) ++ [(s1.1, s0.2)] ++ cr.drop (k + 1)) := by
          rw [cut_map, cut_map, cutL_take, cutL_drop]
          simp only [List.map_append, List.map_cons, List.map_nil, wsD]
        have hj : joinL ts cr k = [(ts, cr.take (k - 1) ++ [(s1.1, s0.2)] ++ cr.drop (k + 1))] := by unfold joinL; rw [if_pos hz, getD_of hs, getD_of hs1]
        rw [hj] at hoth
        refine dss_st (ds_append 6 (d := papD (ts, cr.take (k - 1) ++ [(s1.1, s0.2)] ++ cr.drop (k + 1))) (de_tup (da_cons (de_var 3) (da_cons (DE.eq ((df_cat (df_cat (df_slL (de_var 0) do_none (do_some ((de_sub (de_var 8) de_int).eq (d' := .int (((k - 1 : Nat) : Int))) (congrArg D.int (by omega))))).de (df_lst (da_cons (de_tup (da_cons (de_ixT (de_ixL (de_var 0) ((de_sub (de_var 8) de_int).eq (d' := .int (((k - 1 : Nat) : Int))) (congrArg D.int (by omega))) hs1i) de_int) (da_cons (de_var 10) da_nil))) da_nil)).de ?_).de (df_slL (de_var 0) (do_some ((de_add (de_var 8) de_int).eq (d' := .int (((k + 1 : Nat) : Int))) (congrArg D.int (by omega)))) do_none).de ?_).de) e1) da_nil))) ?_ ?_)
        · have := cl1 none (some ((k - 1 : Nat) : Int)); exact hS _ (by show _ + 1 ≤ _; omega)
        · have := cl1 none (some ((k - 1 : Nat) : Int)); have := cl1 (some ((k + 1 : Nat) : Int)) none; exact hS _ (by rw [List.length_append]; show _ + 1 + _ ≤ _; omega)
        · refine hS' _ ?_
          rw [List.length_map, List.length_append, List.length_map]; show _ + 6 ≤ _; omega
        · refine dss_nil (dss_nil (Up.intro rfl ?_))
          rw [List.range_succ, List.flatMap_append]
          simp only [List.flatMap_cons, List.flatMap_nil, List.append_nil]
          rw [← hoth]
          simp only [List.map_append, List.map_cons, List.map_nil, List.append_assoc]; walk_at "le"
      · have hz : ¬ 0 < k := by have : ¬ (0 : Int) < (k : Int) := of_decide_eq_false hz; omega
        have hj : joinL ts cr k = [] := by unfold joinL; rw [if_neg hz]
        rw [hj, List.append_nil] at hoth
        refine dss_nil (dss_nil (Up.intro rfl ?_))
        rw [List.range_succ, List.flatMap_append]
        simp only [List.flatMap_cons, List.flatMap_nil, List.append_nil]
        rw [← hoth]
        simp only [List.map_append, List.map_cons, List.map_nil, List.append_assoc]; walk_at "le"
    · rintro ρ' rfl
      exact dss_st (ds_retOwn 6 rfl)
theorem ok_judged {f : Addr} {fd : FuncData} (F : Fun K "_law_judged" "_law_judged" s_judged f fd) (T : Bn mg) (c_shows_left : Fn P w K mg base CX0 4 "shows_left" ["windows", "machines", "ticks", "stretches"] (spD K RLeft)) (c_holds : Fn P w K mg base CX0 3 "_law_holds" ["windows", "machines", "ticks", "stretches"] (spD K RLeft)) :
    FnOk P w K mg base CX0 5 f fd ["windows", "machines", "papers"] (spD K RJudged) := by
  refine dfn F sc_judged (fun ds out h => ?_) (fun ds out h cdv A outer s H E hr => ?_)
  · obtain ⟨_, _, _, rfl, _, rfl⟩ := h; exact ⟨rfl, nofun⟩
  · obtain ⟨ws, m, pl, rfl, hm, rfl⟩ := h
    refine dss_st (ds_each 3 (items := pl.map papD) (fun k ρ => ρ = [.dat (wsD ws), .dat (.int m), .dat (.lst (pl.map papD)), .emp, .emp, .emp]) sc_judged.nd PassesOwn.never rfl (de_var 2) (Up.intro rfl (by walk_at "le")) ?_ ?_)
    · rintro k y ρ' hy rfl
      obtain ⟨⟨ts, st⟩, hp, rfl⟩ := pd_get hy
      refine ⟨(by intro m h; cases h), ?_⟩
      refine dss_st (ds_set 4 sc_judged.nd (df_lst (da_cons (df_listOfL T.list (de_var 0)).de (da_cons (df_listOfL T.list (de_ixT (de_var 3) de_int (d := tsD ts))).de (da_cons (df_listOfL T.list (de_ixT (de_var 3) de_int (d := wsD st))).de da_nil)))).de ?_)
      refine dss_st (ds_set 5 sc_judged.nd (de_callF c_shows_left (hr.mono (by decide)) pass0 (da_cons (de_ixL (de_var 4) de_int (d := wsD ws) rfl) (da_cons (de_var 1) (da_cons (de_ixL (de_var 4) de_int (d := tsD ts) rfl) (da_cons (de_ixL (de_var 4) de_int (d := wsD st) rfl) da_nil)))) (d := .bl (leftB ws m ts st)) ⟨ws, m, ts, st, rfl, hm, rfl⟩) ?_)
      refine dss_st (ds_ifF (((dw_or (dt_not (dt_val (de_isi T.isi (de_var 5) (de_bltn (by rfl) T.bool (by decide +kernel)) (TyD.bl _) (kit_bb (b := true))))) (fun _ => (dw_or1 (dt_cmp c_neB (de_var 5) (de_callF c_holds (hr.mono (by decide)) pass0 (da_cons (de_var 0) (da_cons (de_var 1) (da_cons (de_ixT (de_var 3) de_int (d := tsD ts)) (da_cons (de_ixT (de_var 3) de_int (d := wsD st)) da_nil)))) (d := .bl (leftB ws m ts st)) ⟨ws, m, ts, st, rfl, hm, rfl⟩))))).dt).eq (by simp)) (dss_nil ?_))
      have hok : (D.lst [wsD ws, tsD ts, wsD st]).ok = true := by simp only [D.ok, D.oks, ws_oks, ts_oks, Bool.and_self]
      have hdep : (D.lst [wsD ws, tsD ts, wsD st]).dep ≤ 5 := by
        have := ws_deps ws; have := ws_deps st; have := ts_deps ts
        simp only [D.dep, D.deps]; omega
      refine dss_st (ds_ifF (dt_cmp (c_neSelf hok (by have := roomU0 hr (show 10 ≤ 100 by decide); show (A.deeper (envOfC "_law_judged" (defScope s_judged) s.heap.objs.size f cdv)).units + _ < cLine; omega)) (de_var 4) (df_lst (da_cons (de_var 0) (da_cons (de_ixT (de_var 3) de_int) (da_cons (de_ixT (de_var 3) de_int) da_nil)))).de) (dss_nil (dss_nil (Up.intro rfl (by walk_at "le")))))
    · rintro ρ' rfl
      exact dss_st (ds_ret de_bl rfl)
theorem ok_placed {f : Addr} {fd : FuncData} (F : Fun K "_law_placed" "_law_placed" s_placed f fd) (T : Bn mg) (c_shows_placed : Fn P w K mg base CX0 2 "shows_placed" ["windows", "machines", "ticks"] (spD K RPlaced)) (c_ticks_hold : Fn P w K mg base CX0 1 "_law_ticks_hold" ["windows", "machines", "ticks"] (spD K RAre)) :
    FnOk P w K mg base CX0 3 f fd ["windows", "machines", "ticks", "papers"] (spD K RPlacedL) := by
  refine dfn F sc_placed (fun ds out h => ?_) (fun ds out h cdv A outer s H E hr => ?_)
  · obtain ⟨_, _, _, _, rfl, _, _, rfl⟩ := h; exact ⟨rfl, nofun⟩
  · obtain ⟨ws, m, ts0, tl, rfl, hm, htl, rfl⟩ := h
    refine dss_st (ds_each 4 (items := (ts0 :: tl).map tsD) (fun k ρ => ρ = [.dat (wsD ws), .dat (.int m), .dat (tsD ts0), .dat (.lst (tl.map tsD)), .emp, .emp, .emp, .emp]) sc_placed.nd PassesOwn.never rfl (df_cat (df_lst (da_cons (de_var 2) da_nil)).de (de_var 3) ?_).de (Up.intro rfl (by walk_at "le")) ?_ ?_)
    · rw [List.length_map, sizeLine_eq]; show 1 + _ ≤ _; omega
    · rintro k y ρ' hy rfl
      obtain ⟨ts, hp, rfl⟩ := pd_get hy
      refine ⟨(by intro m h; cases h), ?_⟩
      refine dss_st (ds_set 5 sc_placed.nd (df_lst (da_cons (df_listOfL T.list (de_var 0)).de (da_cons (df_listOfL T.list (de_var 4)).de da_nil))).de ?_)
      refine dss_st (ds_set 6 sc_placed.nd (de_callF c_shows_placed (hr.mono (by decide)) pass0 (da_cons (de_ixL (de_var 5) de_int (d := wsD ws) rfl) (da_cons (de_var 1) (da_cons (de_ixL (de_var 5) de_int (d := tsD ts) rfl) da_nil))) (d := .bl (placedB ws m ts)) ⟨ws, m, ts, rfl, hm, rfl⟩) ?_)
      have hin : CmpD (cxOf CX0 P w K mg base ["windows", "machines", "ticks", "papers", "paper", "handed", "told", "due"] "_law_placed" (defScope s_placed) f cdv A outer s H E).nox .NotIn .non (tsD ts) (ts.all Option.isSome) := by
        have q := c_notInP (X := (cxOf CX0 P w K mg base ["windows", "machines", "ticks", "papers", "paper", "handed", "told", "due"] "_law_placed" (defScope s_placed) f cdv A outer s H E).nox) (d := .non) (ds := ts.map tD) rfl (ts_oks ts) (by
          have := roomU0 hr (show 2 ≤ 100 by decide)
          have h2 : min (PyData.depthAll (D.pys (ts.map tD))) D.non.py.depth ≤ 0 := Nat.min_le_right _ _
          show (A.deeper (envOfC "_law_placed" (defScope s_placed) s.heap.objs.size f cdv)).units + 1 + _ < cLine
          omega)
        rw [any_none] at q
        have e : (!ts.any Option.isNone) = ts.all Option.isSome := by
          rw [List.not_any_eq_all_not]
          congr 1
          funext o
          cases o <;> rfl
        rw [e] at q
        exact q
      refine dss_st (ds_set 7 sc_placed.nd (DE.eq (de_and (de_callF c_ticks_hold (hr.mono (by decide)) pass0 (da_cons (de_var 0) (da_cons (de_var 1) (da_cons (de_var 4) da_nil))) (d := .bl (areB ws m ts)) ⟨ws, m, ts, rfl, hm, rfl⟩) (fun _ => (de_one (de_cmp hin de_non (de_var 4))))) (d' := .bl (placedB ws m ts)) rfl) ?_)
      have hok : (D.lst [wsD ws, tsD ts]).ok = true := by simp only [D.ok, D.oks, ws_oks, ts_oks, Bool.and_self]
      have hdep : (D.lst [wsD ws, tsD ts]).dep ≤ 5 := by
        have := ws_deps ws; have := ts_deps ts
        simp only [D.dep, D.deps]; omega
      refine dss_st (ds_ifF (((dw_or (dt_not (dt_val (de_isi T.isi (de_var 6) (de_bltn (by rfl) T.bool (by decide +kernel)) (TyD.bl _) (kit_bb (b := true))))) (fun _ => (dw_or (dt_cmp c_neB (de_var 6) (de_var 7)) (fun _ => (dw_or1 (dt_cmp (c_neSelf hok (by have := roomU0 hr (show 10 ≤ 100 by decide); show (A.deeper (envOfC "_law_placed" (defScope s_placed) s.heap.objs.size f cdv)).units + _ < cLine; omega)) (de_var 5) (df_lst (da_cons (de_var 0) (da_cons (de_var 4) da_nil))).de)))))).dt).eq (by simp)) (dss_nil (dss_nil (Up.intro rfl (by walk_at "le")))))
    · rintro ρ' rfl
      exact dss_st (ds_ret de_bl rfl)
theorem ok_barred {f : Addr} {fd : FuncData} (F : Fun K "_law_barred" "_law_barred" s_barred f fd) (T : Bn mg) (c_shows_stretch : Fn P w K mg base CX0 3 "shows_stretch" ["windows", "machines", "first", "behind"] (spD K RStr)) (c_excess : Fn P w K mg base CX0 2 "_law_excess" ["windows", "machines", "stretch"] (spD K RExcess2)) :
    FnOk P w K mg base CX0 4 f fd ["windows", "machines", "stretches", "digits"] (spD K RBarred) := by
  refine dfn F sc_barred (fun ds out h => ?_) (fun ds out h cdv A outer s H E hr => ?_)
  · obtain ⟨_, _, _, _, _, _, rfl, _, _, _, _, rfl⟩ := h; exact ⟨rfl, nofun⟩
  · obtain ⟨ws, m, st, dg, d2, d3, rfl, hm, hst, hd2, hd3, rfl⟩ := h
    have a2 : (dg.map D.int)[2]? = some (.int d2) := by rw [List.getElem?_map, hd2]; rfl
    have a3 : (dg.map D.int)[3]? = some (.int d3) := by rw [List.getElem?_map, hd3]; rfl
    refine dss_st (ds_set 4 sc_barred.nd (DE.eq (df_lst (da_cons (de_tup (da_cons (de_ixL (de_var 3) de_int (atI_nat a2)) (da_cons (de_ixL (de_var 3) de_int (atI_nat a3)) da_nil))) (da_cons (de_tup (da_cons (de_sub (de_neg de_int) (de_ixL (de_var 3) de_int (atI_nat a2))) (da_cons (de_ixL (de_var 3) de_int (atI_nat a3)) da_nil))) (da_cons (de_tup (da_cons de_int (da_cons de_int da_nil))) (da_cons (de_tup (da_cons de_int (da_cons de_int da_nil))) da_nil))))).de (d' := wsD [(d2, d3), (-1 - d2, d3), (3991, 3990), (3990, 3990)]) rfl) ?_)
    refine dss_st (ds_each 5 (items := st.map pD) (fun k ρ => ∃ tl : List W, tl.length = 4 + 6 * k ∧ ρ = [.dat (wsD ws), .dat (.int m), .dat (wsD st), .dat (.lst (dg.map .int)), .dat (wsD tl), .emp, .emp, .emp, .emp, .emp, .emp]) sc_barred.nd PassesOwn.never rfl (de_var 2) (Up.intro ⟨_, rfl, rfl⟩ (by walk_at "le")) ?_ ?_)
    · rintro k y ρ' hy ⟨tl, hl, rfl⟩
      obtain ⟨s0, hs, rfl⟩ := pd_get hy
      have hk : k < st.length := (List.getElem?_eq_some_iff.mp hs).1
      refine ⟨(by intro m h; cases h), ?_⟩
      refine dss_st (ds_asg (de_var 5) (dg_tup rfl (dgs_cons (dg_name 6 sc_barred.nd) (dgs_cons (dg_name 7 sc_barred.nd) dgs_nil))) ?_)
      refine dss_st (ds_set 4 sc_barred.nd (DE.eq ((df_cat (de_var 4) (df_lst (da_cons (de_var 5) (da_cons (de_tup (da_cons (de_var 6) (da_cons (de_add (de_var 7) de_int) da_nil))) (da_cons (de_tup (da_cons (de_sub (de_var 6) de_int) (da_cons (de_var 7) da_nil))) (da_cons (de_tup (da_cons (de_add (de_var 6) de_int) (da_cons (de_var 7) da_nil))) (da_cons (de_tup (da_cons (de_var 7) (da_cons (de_var 6) da_nil))) (da_cons (de_tup (da_cons (de_var 6) (da_cons (de_var 6) da_nil))) da_nil))))))).de ?_).de) (d' := wsD (tl ++ [s0, (s0.1, s0.2 + 1), (s0.1 - 1, s0.2), (s0.1 + 1, s0.2), (s0.2, s0.1), (s0.1, s0.1)])) (by simp only [wsD, List.map_append]; rfl)) ?_)
      · rw [List.length_map, sizeLine_eq]; show _ + 6 ≤ _; omega
      · exact dss_nil (Up.intro ⟨tl ++ [s0, (s0.1, s0.2 + 1), (s0.1 - 1, s0.2), (s0.1 + 1, s0.2), (s0.2, s0.1), (s0.1, s0.1)], by rw [List.length_append, hl]; simp; omega, rfl⟩ (by walk_at "le"))
    rintro ρ' ⟨tl, hl, rfl⟩
    refine dss_st (ds_each 5 (items := tl.map pD) (fun k ρ => ρ = [.dat (wsD ws), .dat (.int m), .dat (wsD st), .dat (.lst (dg.map .int)), .dat (wsD tl), .emp, .emp, .emp, .emp, .emp, .emp]) sc_barred.nd PassesOwn.never rfl (de_var 4) (Up.intro rfl (by walk_at "le")) ?_ ?_)
    · rintro k y ρ' hy rfl
      obtain ⟨s0, hs, rfl⟩ := pd_get hy
      refine ⟨(by intro m h; cases h), ?_⟩
      refine dss_st (ds_set 8 sc_barred.nd (df_listOfL T.list (de_var 0)).de ?_)
      refine dss_st (ds_set 9 sc_barred.nd (de_callF c_shows_stretch (hr.mono (by decide)) pass0 (da_cons (de_var 8) (da_cons (de_var 1) (da_cons (de_ixT (de_var 5) de_int (d := .int s0.1)) (da_cons (de_ixT (de_var 5) de_int (d := .int s0.2)) da_nil)))) (d := .bl (strB ws m s0.1 s0.2)) ⟨ws, m, s0.1, s0.2, rfl, hm, rfl⟩) ?_)
      refine dss_st (ds_set 10 sc_barred.nd (DE.eq (de_and (de_chain c_le c_lt de_int (de_ixT (de_var 5) de_int (d := .int s0.1)) (de_ixT (de_var 5) de_int (d := .int s0.2))) (fun _ => (de_one (de_cmp c_gt (de_callF c_excess (hr.mono (by decide)) pass0 (da_cons (de_var 0) (da_cons (de_var 1) (da_cons (de_var 5) da_nil))) (d := .int (exc ws m s0.1 s0.2)) ⟨ws, m, s0, rfl, hm, rfl⟩) de_int)))) (d' := .bl (strB ws m s0.1 s0.2)) rfl) ?_)
      have hok : (wsD ws).ok = true := ws_oks ws
      have hdep : (wsD ws).dep ≤ 5 := by
        have := ws_deps ws
        simp only [D.dep]; omega
      refine dss_st (ds_ifF (((dw_or (dt_not (dt_val (de_isi T.isi (de_var 9) (de_bltn (by rfl) T.bool (by decide +kernel)) (TyD.bl _) (kit_bb (b := true))))) (fun _ => (dw_or (dt_cmp c_neB (de_var 9) (de_var 10)) (fun _ => (dw_or1 (dt_cmp (c_neSelf hok (by have := roomU0 hr (show 10 ≤ 100 by decide); show (A.deeper (envOfC "_law_barred" (defScope s_barred) s.heap.objs.size f cdv)).units + _ < cLine; omega)) (de_var 8) (de_var 0))))))).dt).eq (by simp)) (dss_nil (dss_nil (Up.intro rfl (by walk_at "le")))))
    · rintro ρ' rfl
      exact dss_st (ds_ret de_bl rfl)
end
end K30
set_option Elab.async false
set_option linter.all false
set_option maxRecDepth 100000
set_option maxHeartbeats 2000000
namespace K30
open PySem PySem.Spec PyProof.Rows L2 DL
local macro_rules | `(tactic| walk_at "le") => `(tactic| (first | exact trivial | exact ⟨.inl rfl, by walk_at "le"⟩ | exact ⟨.inr ⟨rfl, rfl⟩, by walk_at "le"⟩))
def RLaw (ds : List D) (out : Out) : Prop := ∃ ns : List Int, ds = [.lst (ns.map .int)] ∧ out = .val (.bl true)
theorem bui_len (xs : List Pr) : (xs.map (·.1)).length = (xs.map (·.2)).length := by simp
theorem dig_hd (c : Int) (ss : List Int) (salt : Int) (hp : ∀ s ∈ ss, 0 < s) : ∀ (i : Nat) (s : Int), ss[i]? = some s → (digits c ss salt)[i]? = some (dI (digits c ss salt) i) ∧ 0 ≤ dI (digits c ss salt) i ∧ dI (digits c ss salt) i < s := fun i s h => dig_get c salt hp i h
theorem entries_len (ws : List W) (ts : List (Option Int)) (a o : Nat) : (entriesL ws ts a o).length ≤ 14 := by
  unfold entriesL lastL
  rw [List.length_append, List.length_append, List.length_append, List.length_map]
  show 5 + 7 + 1 + _ ≤ 14
  split <;> simp
theorem stretches_len (cr fl : List W) (m : Nat) (ts : List (Option Int)) (h1 : cr.length ≤ 3) (h2 : fl.length ≤ 3) : (stretchesL cr fl m ts).length ≤ 34 := by
  unfold stretchesL
  rw [List.length_append, List.length_append, List.length_map]
  have := flat_len ts cr cr.length
  show 10 + _ + _ ≤ 34
  omega
section
variable {P : Program} {w : World} {K : PySem.W.Frag} {mg : Str → Option Value} {base : Heap}
theorem ok_law {f : Addr} {fd : FuncData} (F : Fun K "law" "law" s_law f fd) (T : Bn mg) (c_cell : Fn P w K mg base CX0 1 "_law_cell" ["script", "k"] (spD K RCell)) (c_digits : Fn P w K mg base CX0 1 "_law_digits" ["cell", "sizes", "salt"] (spD K RDigits))
    (c_built : ∀ (ns hd : List Int) (m : Nat), 1 ≤ m → m ≤ 4 → (∀ (i : Nat) (s : Int), ([4, 3, 3, 16] : List Int)[i]? = some s → hd[i]? = some (dI hd i) ∧ 0 ≤ dI hd i ∧ dI hd i < s) → Fn P w K mg base CX0 3 "_law_built" ["script", "head", "machines"] (spN K (fun ds => ds = [.lst (ns.map .int), .lst (hd.map .int), .int m]) (fun _ out => ∃ (ps : List Pr) (cr fl : List W) (e : Int), out = .val (.tup [.lst (ps.map prD), wsD cr, wsD fl]) ∧ Bui ps cr m e ∧ (∃ p ∈ ps, p.2.isSome = true) ∧ ps.length ≤ 312 ∧ cr.length ≤ 3 ∧ fl.length ≤ 3)))
    (c_shows_left : Fn P w K mg base CX0 4 "shows_left" ["windows", "machines", "ticks", "stretches"] (spD K RLeft)) (c_shows_placed : Fn P w K mg base CX0 2 "shows_placed" ["windows", "machines", "ticks"] (spD K RPlaced))
    (c_entries : Fn P w K mg base CX0 1 "_law_entries" ["windows", "ticks", "digits"] (spD K REntries)) (c_stretches : Fn P w K mg base CX0 2 "_law_stretches" ["crowded", "full", "machines", "ticks"] (spD K RStretches))
    (c_judged : Fn P w K mg base CX0 5 "_law_judged" ["windows", "machines", "papers"] (spD K RJudged)) (c_placed : Fn P w K mg base CX0 3 "_law_placed" ["windows", "machines", "ticks", "papers"] (spD K RPlacedL)) (c_barred : Fn P w K mg base CX0 4 "_law_barred" ["windows", "machines", "stretches", "digits"] (spD K RBarred)) :
    FnOk P w K mg base CX0 6 f fd ["script"] (spD K RLaw) := by
  refine dfn F sc_law (fun ds out h => ?_) (fun ds out h cdv A outer s H E hr => ?_)
  · obtain ⟨_, rfl, rfl⟩ := h; exact ⟨rfl, nofun⟩
  · obtain ⟨ns, rfl, rfl⟩ := h
    refine dss_st (ds_set 1 sc_law.nd (df_callF c_digits (hr.mono (by decide)) pass0 (da_cons (de_callF c_cell (hr.mono (by decide)) pass0 (da_cons (de_var 0) (da_cons de_int da_nil)) (d := .int (cellN ns 0)) ⟨ns, 0, rfl, rfl⟩) (da_cons (df_lst (da_cons de_int (da_cons de_int (da_cons de_int (da_cons de_int da_nil))))).de (da_cons de_int da_nil))) (m := .lst ((digits (cellN ns 0) [4, 3, 3, 16] ((3 : Nat) : Int)).map .int)) ⟨_, [4, 3, 3, 16], 3, rfl, by decide, by decide, by decide, rfl⟩).de ?_)
    have hh := dig_hd (cellN ns 0) [4, 3, 3, 16] ((3 : Nat) : Int) (by decide)
    generalize digits (cellN ns 0) [4, 3, 3, 16] ((3 : Nat) : Int) = hd at hh ⊢
    have h0 := (hh 0 4 rfl).2
    have a0 : (hd.map D.int)[0]? = some (.int (dI hd 0)) := by rw [List.getElem?_map, (hh 0 4 rfl).1]; rfl
    refine dss_st (ds_set 2 sc_law.nd ((de_add de_int (de_ixL (de_var 1) de_int (atI_nat a0))).eq (d' := .int (((1 + (dI hd 0).toNat : Nat) : Int))) (congrArg D.int (by omega))) ?_)
    have hm0 : 1 ≤ 1 + (dI hd 0).toNat := by omega
    have hm1 : 1 + (dI hd 0).toNat ≤ 4 := by omega
    generalize 1 + (dI hd 0).toNat = m at hm0 hm1 ⊢
    refine dss_st (ds_asgN (M := fun d => ∃ (ps : List Pr) (cr fl : List W) (e : Int), d = .tup [.lst (ps.map prD), wsD cr, wsD fl] ∧ Bui ps cr m e ∧ (∃ p ∈ ps, p.2.isSome = true) ∧ ps.length ≤ 312 ∧ cr.length ≤ 3 ∧ fl.length ≤ 3)
      (de_callNF (c_built ns hd m hm0 hm1 hh) (hr.mono (by decide)) pass0 (da_cons (de_var 0) (da_cons (de_var 1) (da_cons (de_var 2) da_nil))) rfl (fun out h => by obtain ⟨ps, cr, fl, e, rfl, h⟩ := h; exact ⟨_, rfl, ps, cr, fl, e, rfl, h⟩)) ?_)
    rintro d ⟨ps, cr, fl, e, rfl, B, hne, hpl, hcl, hfl⟩
    refine ⟨_, _, dg_tup rfl (dgs_cons (dg_name 3 sc_law.nd) (dgs_cons (dg_name 4 sc_law.nd) (dgs_cons (dg_name 5 sc_law.nd) dgs_nil))), ?_⟩
    have hS : ∀ n, n ≤ 1000 → n ≤ sizeLine := by intro n h; rw [sizeLine_eq]; omega
    refine dss_st (ds_setLc1 6 7 (items := ps) (f := prD) (fun _ => true) (fun p => pD p.1) rfl sc_law.nd (di_list (de_var 3)) rfl (hS _ (by omega)) (fun x hx s' H' C cl fp => ⟨dts_nil, fun _ => (de_ixT (de_var 7) de_int)⟩) ?_)
    rw [List.filter_eq_self.mpr (by simp), show (ps.map fun p => pD p.1) = (ps.map (·.1)).map pD by rw [List.map_map]; rfl]
    refine dss_freeze 6 (m := .lst ((ps.map (·.1)).map pD)) ?_
    refine dss_st (ds_setLc1 8 7 (items := ps) (f := prD) (fun _ => true) (fun p => tD p.2) rfl sc_law.nd (di_list (de_var 3)) rfl (hS _ (by omega)) (fun x hx s' H' C cl fp => ⟨dts_nil, fun _ => (de_ixT (de_var 7) de_int)⟩) ?_)
    rw [List.filter_eq_self.mpr (by simp), show (ps.map fun p => tD p.2) = (ps.map (·.2)).map tD by rw [List.map_map]; rfl]
    refine dss_freeze 8 (m := .lst ((ps.map (·.2)).map tD)) ?_
    refine dss_st (ds_set 9 sc_law.nd (df_callF c_digits (hr.mono (by decide)) pass0 (da_cons (de_callF c_cell (hr.mono (by decide)) pass0 (da_cons (de_var 0) (da_cons de_int da_nil)) (d := .int (cellN ns 1)) ⟨ns, 1, rfl, rfl⟩) (da_cons (df_lst (da_cons de_int (da_cons de_int (da_cons de_int (da_cons de_int da_nil))))).de (da_cons de_int da_nil))) (m := .lst ((digits (cellN ns 1) [400, 400, 12, 12] ((2 : Nat) : Int)).map .int)) ⟨_, [400, 400, 12, 12], 2, rfl, by decide, by decide, by decide, rfl⟩).de ?_)
    have hg := dig_hd (cellN ns 1) [400, 400, 12, 12] ((2 : Nat) : Int) (by decide)
    generalize digits (cellN ns 1) [400, 400, 12, 12] ((2 : Nat) : Int) = dg at hg ⊢
    refine dss_eq [.dat (.lst (ns.map .int)), .dat (.lst (hd.map .int)), .dat (.int m), .dat (.lst (ps.map prD)), .dat (wsD cr), .dat (wsD fl), .dat (.lst ((ps.map (·.1)).map pD)), .emp, .dat (.lst ((ps.map (·.2)).map tD)), .dat (.lst (dg.map .int)), .emp, .emp, .emp, .emp] rfl ?_
    have hleft := B.left
    have hplaced := B.placed
    have hlp := bui_len ps
    have hps0 : 0 < ps.length := by obtain ⟨p, hp, _⟩ := hne; exact List.length_pos_of_mem hp
    refine dss_st (ds_ifF (((dt_cmp c_notB (de_callF c_shows_left (hr.mono (by decide)) pass0 (da_cons (df_listOfL T.list (de_var 6)).de (da_cons (de_var 2) (da_cons (df_listOfL T.list (de_var 8)).de (da_cons (df_listOfL T.list (de_var 4)).de da_nil)))) (d := .bl true) ⟨ps.map (·.1), m, ps.map (·.2), cr, rfl, hm1, by rw [hleft]⟩) de_bl)).eq rfl) (dss_nil ?_))
    have hE : REntries [wsD (ps.map (·.1)), tsD (ps.map (·.2)), .lst (dg.map .int)] (.new (.lst ((entriesL (ps.map (·.1)) (ps.map (·.2)) (dI dg 0 % ((ps.map (·.2)).length : Int)).toNat (dI dg 1 % ((ps.map (·.2)).length : Int)).toNat).map tsD))) :=
      ⟨_, _, dg, dI dg 0, dI dg 1, rfl, hlp, by rw [List.length_map]; omega, by rw [List.length_map]; omega, (hg 0 400 rfl).1, (hg 1 400 rfl).1, (hg 0 400 rfl).2.1, (hg 1 400 rfl).2.1, rfl⟩
    have hEl := entries_len (ps.map (·.1)) (ps.map (·.2)) (dI dg 0 % ((ps.map (·.2)).length : Int)).toNat (dI dg 1 % ((ps.map (·.2)).length : Int)).toNat
    generalize entriesL (ps.map (·.1)) (ps.map (·.2)) (dI dg 0 % ((ps.map (·.2)).length : Int)).toNat (dI dg 1 % ((ps.map (·.2)).length : Int)).toNat = en at hE hEl
    refine dss_st (ds_setLc1 10 11 (items := en) (f := tsD) (fun _ => true) (fun t => papD (t, cr)) rfl sc_law.nd (di_list (df_callF c_entries (hr.mono (by decide)) pass0 (da_cons (de_var 6) (da_cons (de_var 8) (da_cons (de_var 9) da_nil))) hE).de) rfl (hS _ (by omega)) (fun x hx s' H' C cl fp => ⟨dts_nil, fun _ => (de_tup (da_cons (de_var 11) (da_cons (de_var 4) da_nil)))⟩) ?_)
    rw [List.filter_eq_self.mpr (by simp), show (en.map fun t => papD (t, cr)) = (en.map fun t => (t, cr)).map papD by rw [List.map_map]; rfl]
    refine dss_freeze 10 (m := .lst ((en.map fun t => (t, cr)).map papD)) ?_
    have hSt : RStretches [wsD cr, wsD fl, .int m, tsD (ps.map (·.2))] (.new (.lst ((stretchesL cr fl m (ps.map (·.2))).map papD))) := ⟨cr, fl, m, _, rfl, hcl, hfl, by rw [List.length_map]; omega, rfl⟩
    have hSl := stretches_len cr fl m (ps.map (·.2)) hcl hfl
    generalize stretchesL cr fl m (ps.map (·.2)) = sl at hSt hSl
    refine dss_st (ds_ifF (((dt_not (dt_val (de_callF c_judged (hr.mono (by decide)) pass0 (da_cons (de_var 6) (da_cons (de_var 2) (da_cons (df_cat (de_var 10) (df_callF c_stretches (hr.mono (by decide)) pass0 (da_cons (de_var 4) (da_cons (de_var 5) (da_cons (de_var 2) (da_cons (de_var 8) da_nil)))) hSt).de (hS _ (by rw [List.length_map, List.length_map, List.length_map]; omega))).de da_nil))) (d := .bl true) ⟨ps.map (·.1), m, en.map (fun t => (t, cr)) ++ sl, by rw [List.map_append]; rfl, hm1, rfl⟩)))).eq rfl) (dss_nil ?_))
    refine dss_st (ds_setLc1 12 7 (items := ps) (f := prD) (fun p => p.2.isSome) (fun p => pD p.1) rfl sc_law.nd (di_list (de_var 3)) rfl (hS _ (by omega)) (fun x hx s' H' C cl fp => ⟨dts_one (((dt_cmp c_notN (de_ixT (de_var 7) de_int (d := tD x.2)) de_non)).eq (by cases x.2 <;> rfl)), fun _ => (de_ixT (de_var 7) de_int)⟩) ?_)
    rw [show ((ps.filter fun p => p.2.isSome).map fun p => pD p.1) = ((keepP ps).map (·.1)).map pD by rw [List.map_map]; rfl]
    refine dss_freeze 12 (m := .lst (((keepP ps).map (·.1)).map pD)) ?_
    refine dss_eq [.dat (.lst (ns.map .int)), .dat (.lst (hd.map .int)), .dat (.int m), .dat (.lst (ps.map prD)), .dat (wsD cr), .dat (wsD fl), .dat (.lst ((ps.map (·.1)).map pD)), .emp, .dat (.lst ((ps.map (·.2)).map tD)), .dat (.lst (dg.map .int)), .dat (.lst ((en.map fun t => (t, cr)).map papD)), .emp, .dat (.lst (((keepP ps).map (·.1)).map pD)), .emp] rfl ?_
    refine dss_st (ds_setLc1 13 7 (items := ps) (f := prD) (fun p => p.2.isSome) (fun p => tD p.2) rfl sc_law.nd (di_list (de_var 3)) rfl (hS _ (by omega)) (fun x hx s' H' C cl fp => ⟨dts_one (((dt_cmp c_notN (de_ixT (de_var 7) de_int (d := tD x.2)) de_non)).eq (by cases x.2 <;> rfl)), fun _ => (de_ixT (de_var 7) de_int)⟩) ?_)
    rw [show ((ps.filter fun p => p.2.isSome).map fun p => tD p.2) = ((keepP ps).map (·.2)).map tD by rw [List.map_map]; rfl]
    refine dss_freeze 13 (m := .lst (((keepP ps).map (·.2)).map tD)) ?_
    refine dss_st (ds_ifF (((dt_cmp c_notB (de_callF c_shows_placed (hr.mono (by decide)) pass0 (da_cons (df_listOfL T.list (de_var 12)).de (da_cons (de_var 2) (da_cons (df_listOfL T.list (de_var 13)).de da_nil))) (d := .bl true) ⟨(keepP ps).map (·.1), m, (keepP ps).map (·.2), rfl, hm1, by rw [hplaced]⟩) de_bl)).eq rfl) (dss_nil ?_))
    refine dss_eq [.dat (.lst (ns.map .int)), .dat (.lst (hd.map .int)), .dat (.int m), .dat (.lst (ps.map prD)), .dat (wsD cr), .dat (wsD fl), .dat (.lst ((ps.map (·.1)).map pD)), .emp, .dat (.lst ((ps.map (·.2)).map tD)), .dat (.lst (dg.map .int)), .dat (.lst ((en.map fun t => (t, cr)).map papD)), .emp, .dat (.lst (((keepP ps).map (·.1)).map pD)), .dat (.lst (((keepP ps).map (·.2)).map tD))] rfl ?_
    have hk0 : 0 < (keepP ps).length := by obtain ⟨p, hp, hq⟩ := hne; exact List.length_pos_of_mem (List.mem_filter.mpr ⟨hp, hq⟩)
    have hk1 : (keepP ps).length ≤ ps.length := List.length_filter_le _ _
    have hE2 : REntries [wsD ((keepP ps).map (·.1)), tsD ((keepP ps).map (·.2)), .lst (dg.map .int)] (.new (.lst ((entriesL ((keepP ps).map (·.1)) ((keepP ps).map (·.2)) (dI dg 0 % (((keepP ps).map (·.2)).length : Int)).toNat (dI dg 1 % (((keepP ps).map (·.2)).length : Int)).toNat).map tsD))) :=
      ⟨_, _, dg, dI dg 0, dI dg 1, rfl, bui_len (keepP ps), by rw [List.length_map]; omega, by rw [List.length_map]; omega, (hg 0 400 rfl).1, (hg 1 400 rfl).1, (hg 0 400 rfl).2.1, (hg 1 400 rfl).2.1, rfl⟩
    have hEl2 := entries_len ((keepP ps).map (·.1)) ((keepP ps).map (·.2)) (dI dg 0 % (((keepP ps).map (·.2)).length : Int)).toNat (dI dg 1 % (((keepP ps).map (·.2)).length : Int)).toNat
    generalize entriesL ((keepP ps).map (·.1)) ((keepP ps).map (·.2)) (dI dg 0 % (((keepP ps).map (·.2)).length : Int)).toNat (dI dg 1 % (((keepP ps).map (·.2)).length : Int)).toNat = en2 at hE2 hEl2
    refine dss_st (ds_ifF (((dt_not (dt_val (de_callF c_placed (hr.mono (by decide)) pass0 (da_cons (de_var 12) (da_cons (de_var 2) (da_cons (de_var 13) (da_cons (df_callF c_entries (hr.mono (by decide)) pass0 (da_cons (de_var 12) (da_cons (de_var 13) (da_cons (de_var 9) da_nil))) hE2).de da_nil)))) (d := .bl true) ⟨(keepP ps).map (·.1), m, (keepP ps).map (·.2), en2, rfl, hm1, by omega, rfl⟩)))).eq rfl) (dss_nil ?_))
    refine dss_st (ds_ifF (((dt_not (dt_val (de_callF c_placed (hr.mono (by decide)) pass0 (da_cons (de_var 6) (da_cons (de_var 2) (da_cons (de_var 8) (da_cons (df_lst da_nil).de da_nil)))) (d := .bl true) ⟨ps.map (·.1), m, ps.map (·.2), [], rfl, hm1, by decide, rfl⟩)))).eq rfl) (dss_nil ?_))
    exact dss_st (ds_ret (de_callF c_barred (hr.mono (by decide)) pass0 (da_cons (de_var 6) (da_cons (de_var 2) (da_cons (df_cat (de_var 4) (de_var 5) (hS _ (by rw [List.length_map, List.length_map]; omega))).de (da_cons (de_var 9) da_nil)))) (d := .bl true) ⟨ps.map (·.1), m, cr ++ fl, dg, dI dg 2, dI dg 3, by rw [show wsD (cr ++ fl) = D.lst (cr.map pD ++ fl.map pD) from by rw [wsD, List.map_append]]; rfl, hm1, by rw [List.length_append]; omega, (hg 2 12 rfl).1, (hg 3 12 rfl).1, rfl⟩) rfl)
end
end K30
set_option Elab.async false
set_option linter.all false
set_option maxRecDepth 100000
set_option maxHeartbeats 4000000
namespace K30
open PySem PySem.Spec PyProof.Rows L2 DL
theorem all_mk {l : PySem.W.OpenLaw} {w : World} {K : PySem.W.Frag} {h : Heap} {mg : Str → Option Value} {fa : Addr} {f_count_inside f_excess_of f_are_ticks f_shows_placed f_shows_stretch f_shows_left f__law_cell f__law_digits f__law_inside f__law_cluster f__law_loose f__law_built f__law_ticks_hold f__law_excess f__law_holds f__law_emptied f__law_entries f__law_stretches f__law_judged f__law_placed f__law_barred f_law : Addr} (X : K.In h) (G : h.Ns mainGlobals mg) (hfa : mg "law" = some (.ref fa))
    {od1 an1 od2 an2 od3 an3 od4 an4 od5 an5 od6 an6 od7 an7 od8 an8 od9 an9 od10 an10 od11 an11 od12 an12 od13 an13 od14 an14 od15 an15 od16 an16 od17 an17 od18 an18 od19 an19 od20 an20 od21 an21 od22 an22 : Option Addr} {sl1 sl2 sl3 sl4 sl5 sl6 sl7 sl8 sl9 sl10 sl11 sl12 sl13 sl14 sl15 sl16 sl17 sl18 sl19 sl20 sl21 sl22 : Array (Option Value)} {oc1 kV1 dc1 pm1 cd1 ct1 oc2 kV2 dc2 pm2 cd2 ct2 oc3 kV3 dc3 pm3 cd3 ct3 oc4 kV4 dc4 pm4 cd4 ct4 oc5 kV5 dc5 pm5 cd5 ct5 oc6 kV6 dc6 pm6 cd6 ct6 oc7 kV7 dc7 pm7 cd7 ct7 oc8 kV8 dc8 pm8 cd8 ct8 oc9 kV9 dc9 pm9 cd9 ct9 oc10 kV10 dc10 pm10 cd10 ct10 oc11 kV11 dc11 pm11 cd11 ct11 oc12 kV12 dc12 pm12 cd12 ct12 oc13 kV13 dc13 pm13 cd13 ct13 oc14 kV14 dc14 pm14 cd14 ct14 oc15 kV15 dc15 pm15 cd15 ct15 oc16 kV16 dc16 pm16 cd16 ct16 oc17 kV17 dc17 pm17 cd17 ct17 oc18 kV18 dc18 pm18 cd18 ct18 oc19 kV19 dc19 pm19 cd19 ct19 oc20 kV20 dc20 pm20 cd20 ct20 oc21 kV21 dc21 pm21 cd21 ct21 oc22 kV22 dc22 pm22 cd22 ct22 : Value}
    (a1 : PySem.W.nsIn K mainGlobals "count_inside" = some (some (.ref f_count_inside))) (l1 : K.lookup f_count_inside = some ⟨oc1, od1, .func (PySem.W.fnOf "count_inside" "count_inside" (defArgs s_count_inside) (defBody s_count_inside) (defScope s_count_inside) .none kV1 dc1 pm1 an1 cd1 ct1), sl1⟩) (c1 : PySem.W.codeIn K cd1 "count_inside" = true) (k1 : PySem.W.keepIn K (.ref f_count_inside) = true)
    (a2 : PySem.W.nsIn K mainGlobals "excess_of" = some (some (.ref f_excess_of))) (l2 : K.lookup f_excess_of = some ⟨oc2, od2, .func (PySem.W.fnOf "excess_of" "excess_of" (defArgs s_excess_of) (defBody s_excess_of) (defScope s_excess_of) .none kV2 dc2 pm2 an2 cd2 ct2), sl2⟩) (c2 : PySem.W.codeIn K cd2 "excess_of" = true) (k2 : PySem.W.keepIn K (.ref f_excess_of) = true)
    (a3 : PySem.W.nsIn K mainGlobals "are_ticks" = some (some (.ref f_are_ticks))) (l3 : K.lookup f_are_ticks = some ⟨oc3, od3, .func (PySem.W.fnOf "are_ticks" "are_ticks" (defArgs s_are_ticks) (defBody s_are_ticks) (defScope s_are_ticks) .none kV3 dc3 pm3 an3 cd3 ct3), sl3⟩) (c3 : PySem.W.codeIn K cd3 "are_ticks" = true) (k3 : PySem.W.keepIn K (.ref f_are_ticks) = true)
    (a4 : PySem.W.nsIn K mainGlobals "shows_placed" = some (some (.ref f_shows_placed))) (l4 : K.lookup f_shows_placed = some ⟨oc4, od4, .func (PySem.W.fnOf "shows_placed" "shows_placed" (defArgs s_shows_placed) (defBody s_shows_placed) (defScope s_shows_placed) .none kV4 dc4 pm4 an4 cd4 ct4), sl4⟩) (c4 : PySem.W.codeIn K cd4 "shows_placed" = true) (k4 : PySem.W.keepIn K (.ref f_shows_placed) = true)
    (a5 : PySem.W.nsIn K mainGlobals "shows_stretch" = some (some (.ref f_shows_stretch))) (l5 : K.lookup f_shows_stretch = some ⟨oc5, od5, .func (PySem.W.fnOf "shows_stretch" "shows_stretch" (defArgs s_shows_stretch) (defBody s_shows_stretch) (defScope s_shows_stretch) .none kV5 dc5 pm5 an5 cd5 ct5), sl5⟩) (c5 : PySem.W.codeIn K cd5 "shows_stretch" = true) (k5 : PySem.W.keepIn K (.ref f_shows_stretch) = true)
    (a6 : PySem.W.nsIn K mainGlobals "shows_left" = some (some (.ref f_shows_left))) (l6 : K.lookup f_shows_left = some ⟨oc6, od6, .func (PySem.W.fnOf "shows_left" "shows_left" (defArgs s_shows_left) (defBody s_shows_left) (defScope s_shows_left) .none kV6 dc6 pm6 an6 cd6 ct6), sl6⟩) (c6 : PySem.W.codeIn K cd6 "shows_left" = true) (k6 : PySem.W.keepIn K (.ref f_shows_left) = true)
    (a7 : PySem.W.nsIn K mainGlobals "_law_cell" = some (some (.ref f__law_cell))) (l7 : K.lookup f__law_cell = some ⟨oc7, od7, .func (PySem.W.fnOf "_law_cell" "_law_cell" (defArgs s_cell) (defBody s_cell) (defScope s_cell) .none kV7 dc7 pm7 an7 cd7 ct7), sl7⟩) (c7 : PySem.W.codeIn K cd7 "_law_cell" = true) (k7 : PySem.W.keepIn K (.ref f__law_cell) = true)
    (a8 : PySem.W.nsIn K mainGlobals "_law_digits" = some (some (.ref f__law_digits))) (l8 : K.lookup f__law_digits = some ⟨oc8, od8, .func (PySem.W.fnOf "_law_digits" "_law_digits" (defArgs s_digits) (defBody s_digits) (defScope s_digits) .none kV8 dc8 pm8 an8 cd8 ct8), sl8⟩) (c8 : PySem.W.codeIn K cd8 "_law_digits" = true) (k8 : PySem.W.keepIn K (.ref f__law_digits) = true)
    (a9 : PySem.W.nsIn K mainGlobals "_law_inside" = some (some (.ref f__law_inside))) (l9 : K.lookup f__law_inside = some ⟨oc9, od9, .func (PySem.W.fnOf "_law_inside" "_law_inside" (defArgs s_inside) (defBody s_inside) (defScope s_inside) .none kV9 dc9 pm9 an9 cd9 ct9), sl9⟩) (c9 : PySem.W.codeIn K cd9 "_law_inside" = true) (k9 : PySem.W.keepIn K (.ref f__law_inside) = true)
    (a10 : PySem.W.nsIn K mainGlobals "_law_cluster" = some (some (.ref f__law_cluster))) (l10 : K.lookup f__law_cluster = some ⟨oc10, od10, .func (PySem.W.fnOf "_law_cluster" "_law_cluster" (defArgs s_cluster) (defBody s_cluster) (defScope s_cluster) .none kV10 dc10 pm10 an10 cd10 ct10), sl10⟩) (c10 : PySem.W.codeIn K cd10 "_law_cluster" = true) (k10 : PySem.W.keepIn K (.ref f__law_cluster) = true)
    (a11 : PySem.W.nsIn K mainGlobals "_law_loose" = some (some (.ref f__law_loose))) (l11 : K.lookup f__law_loose = some ⟨oc11, od11, .func (PySem.W.fnOf "_law_loose" "_law_loose" (defArgs s_loose) (defBody s_loose) (defScope s_loose) .none kV11 dc11 pm11 an11 cd11 ct11), sl11⟩) (c11 : PySem.W.codeIn K cd11 "_law_loose" = true) (k11 : PySem.W.keepIn K (.ref f__law_loose) = true)
    (a12 : PySem.W.nsIn K mainGlobals "_law_built" = some (some (.ref f__law_built))) (l12 : K.lookup f__law_built = some ⟨oc12, od12, .func (PySem.W.fnOf "_law_built" "_law_built" (defArgs s_built) (defBody s_built) (defScope s_built) .none kV12 dc12 pm12 an12 cd12 ct12), sl12⟩) (c12 : PySem.W.codeIn K cd12 "_law_built" = true) (k12 : PySem.W.keepIn K (.ref f__law_built) = true)
    (a13 : PySem.W.nsIn K mainGlobals "_law_ticks_hold" = some (some (.ref f__law_ticks_hold))) (l13 : K.lookup f__law_ticks_hold = some ⟨oc13, od13, .func (PySem.W.fnOf "_law_ticks_hold" "_law_ticks_hold" (defArgs s_ticks_hold) (defBody s_ticks_hold) (defScope s_ticks_hold) .none kV13 dc13 pm13 an13 cd13 ct13), sl13⟩) (c13 : PySem.W.codeIn K cd13 "_law_ticks_hold" = true) (k13 : PySem.W.keepIn K (.ref f__law_ticks_hold) = true)
    (a14 : PySem.W.nsIn K mainGlobals "_law_excess" = some (some (.ref f__law_excess))) (l14 : K.lookup f__law_excess = some ⟨oc14, od14, .func (PySem.W.fnOf "_law_excess" "_law_excess" (defArgs s_excess) (defBody s_excess) (defScope s_excess) .none kV14 dc14 pm14 an14 cd14 ct14), sl14⟩) (c14 : PySem.W.codeIn K cd14 "_law_excess" = true) (k14 : PySem.W.keepIn K (.ref f__law_excess) = true)
    (a15 : PySem.W.nsIn K mainGlobals "_law_holds" = some (some (.ref f__law_holds))) (l15 : K.lookup f__law_holds = some ⟨oc15, od15, .func (PySem.W.fnOf "_law_holds" "_law_holds" (defArgs s_holds) (defBody s_holds) (defScope s_holds) .none kV15 dc15 pm15 an15 cd15 ct15), sl15⟩) (c15 : PySem.W.codeIn K cd15 "_law_holds" = true) (k15 : PySem.W.keepIn K (.ref f__law_holds) = true)
    (a16 : PySem.W.nsIn K mainGlobals "_law_emptied" = some (some (.ref f__law_emptied))) (l16 : K.lookup f__law_emptied = some ⟨oc16, od16, .func (PySem.W.fnOf "_law_emptied" "_law_emptied" (defArgs s_emptied) (defBody s_emptied) (defScope s_emptied) .none kV16 dc16 pm16 an16 cd16 ct16), sl16⟩) (c16 : PySem.W.codeIn K cd16 "_law_emptied" = true) (k16 : PySem.W.keepIn K (.ref f__law_emptied) = true)
    (a17 : PySem.W.nsIn K mainGlobals "_law_entries" = some (some (.ref f__law_entries))) (l17 : K.lookup f__law_entries = some ⟨oc17, od17, .func (PySem.W.fnOf "_law_entries" "_law_entries" (defArgs s_entries) (defBody s_entries) (defScope s_entries) .none kV17 dc17 pm17 an17 cd17 ct17), sl17⟩) (c17 : PySem.W.codeIn K cd17 "_law_entries" = true) (k17 : PySem.W.keepIn K (.ref f__law_entries) = true)
    (a18 : PySem.W.nsIn K mainGlobals "_law_stretches" = some (some (.ref f__law_stretches))) (l18 : K.lookup f__law_stretches = some ⟨oc18, od18, .func (PySem.W.fnOf "_law_stretches" "_law_stretches" (defArgs s_stretches) (defBody s_stretches) (defScope s_stretches) .none kV18 dc18 pm18 an18 cd18 ct18), sl18⟩) (c18 : PySem.W.codeIn K cd18 "_law_stretches" = true) (k18 : PySem.W.keepIn K (.ref f__law_stretches) = true)
    (a19 : PySem.W.nsIn K mainGlobals "_law_judged" = some (some (.ref f__law_judged))) (l19 : K.lookup f__law_judged = some ⟨oc19, od19, .func (PySem.W.fnOf "_law_judged" "_law_judged" (defArgs s_judged) (defBody s_judged) (defScope s_judged) .none kV19 dc19 pm19 an19 cd19 ct19), sl19⟩) (c19 : PySem.W.codeIn K cd19 "_law_judged" = true) (k19 : PySem.W.keepIn K (.ref f__law_judged) = true)
    (a20 : PySem.W.nsIn K mainGlobals "_law_placed" = some (some (.ref f__law_placed))) (l20 : K.lookup f__law_placed = some ⟨oc20, od20, .func (PySem.W.fnOf "_law_placed" "_law_placed" (defArgs s_placed) (defBody s_placed) (defScope s_placed) .none kV20 dc20 pm20 an20 cd20 ct20), sl20⟩) (c20 : PySem.W.codeIn K cd20 "_law_placed" = true) (k20 : PySem.W.keepIn K (.ref f__law_placed) = true)
    (a21 : PySem.W.nsIn K mainGlobals "_law_barred" = some (some (.ref f__law_barred))) (l21 : K.lookup f__law_barred = some ⟨oc21, od21, .func (PySem.W.fnOf "_law_barred" "_law_barred" (defArgs s_barred) (defBody s_barred) (defScope s_barred) .none kV21 dc21 pm21 an21 cd21 ct21), sl21⟩) (c21 : PySem.W.codeIn K cd21 "_law_barred" = true) (k21 : PySem.W.keepIn K (.ref f__law_barred) = true)
    (a22 : PySem.W.nsIn K mainGlobals "law" = some (some (.ref f_law))) (l22 : K.lookup f_law = some ⟨oc22, od22, .func (PySem.W.fnOf "law" "law" (defArgs s_law) (defBody s_law) (defScope s_law) .none kV22 dc22 pm22 an22 cd22 ct22), sl22⟩) (c22 : PySem.W.codeIn K cd22 "law" = true) (k22 : PySem.W.keepIn K (.ref f_law) = true)
    (z_abs : PySem.W.nsIn K mainGlobals "abs" = some none)
    (z_all : PySem.W.nsIn K mainGlobals "all" = some none)
    (z_any : PySem.W.nsIn K mainGlobals "any" = some none)
    (z_bool : PySem.W.nsIn K mainGlobals "bool" = some none)
    (z_dict : PySem.W.nsIn K mainGlobals "dict" = some none)
    (z_enumerate : PySem.W.nsIn K mainGlobals "enumerate" = some none)
    (z_int : PySem.W.nsIn K mainGlobals "int" = some none)
    (z_isinstance : PySem.W.nsIn K mainGlobals "isinstance" = some none)
    (z_len : PySem.W.nsIn K mainGlobals "len" = some none)
    (z_list : PySem.W.nsIn K mainGlobals "list" = some none)
    (z_max : PySem.W.nsIn K mainGlobals "max" = some none)
    (z_min : PySem.W.nsIn K mainGlobals "min" = some none)
    (z_range : PySem.W.nsIn K mainGlobals "range" = some none)
    (z_reversed : PySem.W.nsIn K mainGlobals "reversed" = some none)
    (z_set : PySem.W.nsIn K mainGlobals "set" = some none)
    (z_sorted : PySem.W.nsIn K mainGlobals "sorted" = some none)
    (z_str : PySem.W.nsIn K mainGlobals "str" = some none)
    (z_sum : PySem.W.nsIn K mainGlobals "sum" = some none)
    (z_tuple : PySem.W.nsIn K mainGlobals "tuple" = some none)
    (z_zip : PySem.W.nsIn K mainGlobals "zip" = some none)
    (z_ValueError : PySem.W.nsIn K mainGlobals "ValueError" = some none)
    : ∃ fd : FuncData, (∀ (s : Shared) (v : Value), BindsTo s fd ⟨[v], []⟩ [("script", v)]) ∧ ∀ base : Heap, K.In base → base.Ns mainGlobals mg → FnOk l.prog w K mg base CX0 6 fa fd ["script"] (spD K RLaw) := by
  have e := hfa.symm.trans (PySem.W.mg_of X G a22)
  cases e
  have F_count_inside := fun_mk (st := s_count_inside) l1 c1 k1
  have b_count_inside := F_count_inside.binds (ps := ["windows", "first", "behind"]) fun _ _ _ _ _ _ us hl => match us, hl with | [_, _, _], _ => rfl
  have m_count_inside := PySem.W.mg_of X G a1
  have F_excess_of := fun_mk (st := s_excess_of) l2 c2 k2
  have b_excess_of := F_excess_of.binds (ps := ["windows", "machines", "first", "behind"]) fun _ _ _ _ _ _ us hl => match us, hl with | [_, _, _, _], _ => rfl
  have m_excess_of := PySem.W.mg_of X G a2
  have F_are_ticks := fun_mk (st := s_are_ticks) l3 c3 k3
  have b_are_ticks := F_are_ticks.binds (ps := ["windows", "machines", "ticks"]) fun _ _ _ _ _ _ us hl => match us, hl with | [_, _, _], _ => rfl
  have m_are_ticks := PySem.W.mg_of X G a3
  have F_shows_placed := fun_mk (st := s_shows_placed) l4 c4 k4
  have b_shows_placed := F_shows_placed.binds (ps := ["windows", "machines", "ticks"]) fun _ _ _ _ _ _ us hl => match us, hl with | [_, _, _], _ => rfl
  have m_shows_placed := PySem.W.mg_of X G a4
  have F_shows_stretch := fun_mk (st := s_shows_stretch) l5 c5 k5
  have b_shows_stretch := F_shows_stretch.binds (ps := ["windows", "machines", "first", "behind"]) fun _ _ _ _ _ _ us hl => match us, hl with | [_, _, _, _], _ => rfl
  have m_shows_stretch := PySem.W.mg_of X G a5
  have F_shows_left := fun_mk (st := s_shows_left) l6 c6 k6
  have b_shows_left := F_shows_left.binds (ps := ["windows", "machines", "ticks", "stretches"]) fun _ _ _ _ _ _ us hl => match us, hl with | [_, _, _, _], _ => rfl
  have m_shows_left := PySem.W.mg_of X G a6
  have F__law_cell := fun_mk (st := s_cell) l7 c7 k7
  have b__law_cell := F__law_cell.binds (ps := ["script", "k"]) fun _ _ _ _ _ _ us hl => match us, hl with | [_, _], _ => rfl
  have m__law_cell := PySem.W.mg_of X G a7
  have F__law_digits := fun_mk (st := s_digits) l8 c8 k8
  have b__law_digits := F__law_digits.binds (ps := ["cell", "sizes", "salt"]) fun _ _ _ _ _ _ us hl => match us, hl with | [_, _, _], _ => rfl
  have m__law_digits := PySem.W.mg_of X G a8
  have F__law_inside := fun_mk (st := s_inside) l9 c9 k9
  have b__law_inside := F__law_inside.binds (ps := ["windows", "begin", "behind"]) fun _ _ _ _ _ _ us hl => match us, hl with | [_, _, _], _ => rfl
  have m__law_inside := PySem.W.mg_of X G a9
  have F__law_cluster := fun_mk (st := s_cluster) l10 c10 k10
  have b__law_cluster := F__law_cluster.binds (ps := ["script", "k", "begin", "size", "machines", "extra"]) fun _ _ _ _ _ _ us hl => match us, hl with | [_, _, _, _, _, _], _ => rfl
  have m__law_cluster := PySem.W.mg_of X G a10
  have F__law_loose := fun_mk (st := s_loose) l11 c11 k11
  have b__law_loose := F__law_loose.binds (ps := ["script", "k", "place", "machines"]) fun _ _ _ _ _ _ us hl => match us, hl with | [_, _, _, _], _ => rfl
  have m__law_loose := PySem.W.mg_of X G a11
  have F__law_built := fun_mk (st := s_built) l12 c12 k12
  have b__law_built := F__law_built.binds (ps := ["script", "head", "machines"]) fun _ _ _ _ _ _ us hl => match us, hl with | [_, _, _], _ => rfl
  have m__law_built := PySem.W.mg_of X G a12
  have F__law_ticks_hold := fun_mk (st := s_ticks_hold) l13 c13 k13
  have b__law_ticks_hold := F__law_ticks_hold.binds (ps := ["windows", "machines", "ticks"]) fun _ _ _ _ _ _ us hl => match us, hl with | [_, _, _], _ => rfl
  have m__law_ticks_hold := PySem.W.mg_of X G a13
  have F__law_excess := fun_mk (st := s_excess) l14 c14 k14
  have b__law_excess := F__law_excess.binds (ps := ["windows", "machines", "stretch"]) fun _ _ _ _ _ _ us hl => match us, hl with | [_, _, _], _ => rfl
  have m__law_excess := PySem.W.mg_of X G a14
  have F__law_holds := fun_mk (st := s_holds) l15 c15 k15
  have b__law_holds := F__law_holds.binds (ps := ["windows", "machines", "ticks", "stretches"]) fun _ _ _ _ _ _ us hl => match us, hl with | [_, _, _, _], _ => rfl
  have m__law_holds := PySem.W.mg_of X G a15
  have F__law_emptied := fun_mk (st := s_emptied) l16 c16 k16
  have b__law_emptied := F__law_emptied.binds (ps := ["ticks", "many"]) fun _ _ _ _ _ _ us hl => match us, hl with | [_, _], _ => rfl
  have m__law_emptied := PySem.W.mg_of X G a16
  have F__law_entries := fun_mk (st := s_entries) l17 c17 k17
  have b__law_entries := F__law_entries.binds (ps := ["windows", "ticks", "digits"]) fun _ _ _ _ _ _ us hl => match us, hl with | [_, _, _], _ => rfl
  have m__law_entries := PySem.W.mg_of X G a17
  have F__law_stretches := fun_mk (st := s_stretches) l18 c18 k18
  have b__law_stretches := F__law_stretches.binds (ps := ["crowded", "full", "machines", "ticks"]) fun _ _ _ _ _ _ us hl => match us, hl with | [_, _, _, _], _ => rfl
  have m__law_stretches := PySem.W.mg_of X G a18
  have F__law_judged := fun_mk (st := s_judged) l19 c19 k19
  have b__law_judged := F__law_judged.binds (ps := ["windows", "machines", "papers"]) fun _ _ _ _ _ _ us hl => match us, hl with | [_, _, _], _ => rfl
  have m__law_judged := PySem.W.mg_of X G a19
  have F__law_placed := fun_mk (st := s_placed) l20 c20 k20
  have b__law_placed := F__law_placed.binds (ps := ["windows", "machines", "ticks", "papers"]) fun _ _ _ _ _ _ us hl => match us, hl with | [_, _, _, _], _ => rfl
  have m__law_placed := PySem.W.mg_of X G a20
  have F__law_barred := fun_mk (st := s_barred) l21 c21 k21
  have b__law_barred := F__law_barred.binds (ps := ["windows", "machines", "stretches", "digits"]) fun _ _ _ _ _ _ us hl => match us, hl with | [_, _, _, _], _ => rfl
  have m__law_barred := PySem.W.mg_of X G a21
  have F_law := fun_mk (st := s_law) l22 c22 k22
  have b_law := F_law.binds (ps := ["script"]) fun _ _ _ _ _ _ us hl => match us, hl with | [_], _ => rfl
  have m_law := PySem.W.mg_of X G a22
  have n_abs := PySem.W.mg_none_of X G z_abs
  have n_all := PySem.W.mg_none_of X G z_all
  have n_any := PySem.W.mg_none_of X G z_any
  have n_bool := PySem.W.mg_none_of X G z_bool
  have n_dict := PySem.W.mg_none_of X G z_dict
  have n_enumerate := PySem.W.mg_none_of X G z_enumerate
  have n_int := PySem.W.mg_none_of X G z_int
  have n_isinstance := PySem.W.mg_none_of X G z_isinstance
  have n_len := PySem.W.mg_none_of X G z_len
  have n_list := PySem.W.mg_none_of X G z_list
  have n_max := PySem.W.mg_none_of X G z_max
  have n_min := PySem.W.mg_none_of X G z_min
  have n_range := PySem.W.mg_none_of X G z_range
  have n_reversed := PySem.W.mg_none_of X G z_reversed
  have n_set := PySem.W.mg_none_of X G z_set
  have n_sorted := PySem.W.mg_none_of X G z_sorted
  have n_str := PySem.W.mg_none_of X G z_str
  have n_sum := PySem.W.mg_none_of X G z_sum
  have n_tuple := PySem.W.mg_none_of X G z_tuple
  have n_zip := PySem.W.mg_none_of X G z_zip
  have n_ValueError := PySem.W.mg_none_of X G z_ValueError
  refine ⟨PySem.W.fnOf "law" "law" (defArgs s_law) (defBody s_law) (defScope s_law) .none kV22 dc22 pm22 an22 cd22 ct22, fun s v => .of_eq rfl, fun base _ _ => ?_⟩
  have T : Bn mg := ⟨n_abs, n_all, n_any, n_bool, n_dict, n_enumerate, n_int, n_isinstance, n_len, n_list, n_max, n_min, n_range, n_reversed, n_set, n_sorted, n_str, n_sum, n_tuple, n_zip, n_ValueError⟩
  have c_cell : Fn l.prog w K mg base CX0 1 "_law_cell" _ (spD K RCell) := ⟨⟨_, _, ok_cell F__law_cell T, b__law_cell, m__law_cell, F__law_cell.kp⟩⟩
  have c_digits : Fn l.prog w K mg base CX0 1 "_law_digits" _ (spD K RDigits) := ⟨⟨_, _, ok_digits F__law_digits T, b__law_digits, m__law_digits, F__law_digits.kp⟩⟩
  have c_count_inside : Fn l.prog w K mg base CX0 1 "count_inside" _ (spD K RCount) := ⟨⟨_, _, ok_count_inside F_count_inside T, b_count_inside, m_count_inside, F_count_inside.kp⟩⟩
  have c_inside : Fn l.prog w K mg base CX0 1 "_law_inside" _ (spD K RCount) := ⟨⟨_, _, ok_inside F__law_inside T, b__law_inside, m__law_inside, F__law_inside.kp⟩⟩
  have c_excess_of : Fn l.prog w K mg base CX0 2 "excess_of" _ (spD K RExcess) := ⟨⟨_, _, ok_excess_of F_excess_of T c_count_inside, b_excess_of, m_excess_of, F_excess_of.kp⟩⟩
  have c_excess : Fn l.prog w K mg base CX0 2 "_law_excess" _ (spD K RExcess2) := ⟨⟨_, _, ok_excess F__law_excess T c_inside, b__law_excess, m__law_excess, F__law_excess.kp⟩⟩
  have c_are_ticks : Fn l.prog w K mg base CX0 1 "are_ticks" _ (spD K RAre) := ⟨⟨_, _, ok_are_ticks F_are_ticks T, b_are_ticks, m_are_ticks, F_are_ticks.kp⟩⟩
  have c_shows_placed : Fn l.prog w K mg base CX0 2 "shows_placed" _ (spD K RPlaced) := ⟨⟨_, _, ok_shows_placed F_shows_placed T c_are_ticks, b_shows_placed, m_shows_placed, F_shows_placed.kp⟩⟩
  have c_shows_stretch : Fn l.prog w K mg base CX0 3 "shows_stretch" _ (spD K RStr) := ⟨⟨_, _, ok_shows_stretch F_shows_stretch T c_excess_of, b_shows_stretch, m_shows_stretch, F_shows_stretch.kp⟩⟩
  have c_shows_left : Fn l.prog w K mg base CX0 4 "shows_left" _ (spD K RLeft) := ⟨⟨_, _, ok_shows_left F_shows_left T c_are_ticks c_excess_of c_shows_stretch, b_shows_left, m_shows_left, F_shows_left.kp⟩⟩
  have c_ticks_hold : Fn l.prog w K mg base CX0 1 "_law_ticks_hold" _ (spD K RAre) := ⟨⟨_, _, ok_ticks_hold F__law_ticks_hold T, b__law_ticks_hold, m__law_ticks_hold, F__law_ticks_hold.kp⟩⟩
  have c_holds : Fn l.prog w K mg base CX0 3 "_law_holds" _ (spD K RLeft) := ⟨⟨_, _, ok_holds F__law_holds T c_ticks_hold c_excess, b__law_holds, m__law_holds, F__law_holds.kp⟩⟩
  have c_emptied : Fn l.prog w K mg base CX0 1 "_law_emptied" _ (spD K REmptied) := ⟨⟨_, _, ok_emptied F__law_emptied T, b__law_emptied, m__law_emptied, F__law_emptied.kp⟩⟩
  have c_cluster := fun (ns : List Int) (k : Nat) (b : Int) (size m extra : Nat) (h1 : k ≤ 2) (h2 : 1 ≤ size) (h3 : size ≤ 25) (h4 : 1 ≤ m) (h5 : m ≤ 4) (h6 : extra ≤ 2) => Fn.mk (P := l.prog) (w := w) (base := base) ⟨_, _, ok_cluster F__law_cluster T c_cell c_digits ns k b size m extra h1 h2 h3 h4 h5 h6, b__law_cluster, m__law_cluster, F__law_cluster.kp⟩
  have c_loose : Fn l.prog w K mg base CX0 2 "_law_loose" _ (spD K RLoose) := ⟨⟨_, _, ok_loose F__law_loose T c_cell c_digits, b__law_loose, m__law_loose, F__law_loose.kp⟩⟩
  have c_built := fun (ns hd : List Int) (m : Nat) (h1 : 1 ≤ m) (h2 : m ≤ 4) (h3 : ∀ (i : Nat) (s : Int), ([4, 3, 3, 16] : List Int)[i]? = some s → hd[i]? = some (dI hd i) ∧ 0 ≤ dI hd i ∧ dI hd i < s) => Fn.mk (P := l.prog) (w := w) (base := base) ⟨_, _, ok_built F__law_built T c_cell c_digits c_loose c_cluster ns hd m h1 h2 h3, b__law_built, m__law_built, F__law_built.kp⟩
  have c_entries : Fn l.prog w K mg base CX0 1 "_law_entries" _ (spD K REntries) := ⟨⟨_, _, ok_entries F__law_entries T, b__law_entries, m__law_entries, F__law_entries.kp⟩⟩
  have c_stretches : Fn l.prog w K mg base CX0 2 "_law_stretches" _ (spD K RStretches) := ⟨⟨_, _, ok_stretches F__law_stretches T c_emptied, b__law_stretches, m__law_stretches, F__law_stretches.kp⟩⟩
  have c_judged : Fn l.prog w K mg base CX0 5 "_law_judged" _ (spD K RJudged) := ⟨⟨_, _, ok_judged F__law_judged T c_shows_left c_holds, b__law_judged, m__law_judged, F__law_judged.kp⟩⟩
  have c_placed : Fn l.prog w K mg base CX0 3 "_law_placed" _ (spD K RPlacedL) := ⟨⟨_, _, ok_placed F__law_placed T c_shows_placed c_ticks_hold, b__law_placed, m__law_placed, F__law_placed.kp⟩⟩
  have c_barred : Fn l.prog w K mg base CX0 4 "_law_barred" _ (spD K RBarred) := ⟨⟨_, _, ok_barred F__law_barred T c_shows_stretch c_excess, b__law_barred, m__law_barred, F__law_barred.kp⟩⟩
  exact ok_law F_law T c_cell c_digits c_built c_shows_left c_shows_placed c_entries c_stretches c_judged c_placed c_barred
theorem walk {l : PySem.W.OpenLaw} {q : Program} {loose : List Str} {XP : (Str → Option Value) → Heap → Prop} {YP : World → Heap → Prop} {d : DefRec} {K : Params → PySem.W.Frag} (hn : l.most = some 63) (hdf : d.params.defaults = [])
    (hY : ∀ (w : World) (h : Heap), YP w h → (K w.params).In h)
    (F : ∀ (w : World) (mg : Str → Option Value) (fa : Addr) (h : Heap), (K w.params).In h → h.Ns mainGlobals mg → mg d.name = some (.ref fa) →
      ∃ fd : FuncData, (∀ (s : Shared) (u : Value), BindsTo s fd ⟨[u], []⟩ [("script", u)]) ∧ ∀ base : Heap, (K w.params).In base → base.Ns mainGlobals mg → FnOk l.prog w (K w.params) mg base CX0 6 fa fd ["script"] (spD (K w.params) RLaw)) :
    PySem.W.WalkO q loose XP YP l.row.toRowW d [] (fun f vs => PySem.call f vs) :=
  L2.walk_of (n := 63) (k := 6) (x := "script") (CX := fun _ => CX0) (sp := fun w => spD (K w.params) RLaw) hn (by decide) hdf ⟨rfl, by decide, by decide⟩ hY F
    (fun w H a ns hl _ hS => ⟨[], [.lst (ns.map .int)], .val (.bl true), (fun b hb => nomatch hb), .one (.lst (by rw [off_nil]; exact hS) (DRs.of_ints ns)), ⟨ns, rfl, rfl⟩, fun v H' _ r => by cases r; rfl⟩) fun _ _ _ _ _ z => z
end K30

open PySem PySem.W PyProof.Rows in
set_option maxRecDepth 100000 in
set_option maxHeartbeats 0 in
theorem PySem.Challenge.cw_eachitsshare_k30_window_judges_exact_holds : PySem.Challenge.rw_eachitsshare_k30_window_judges_exact.Holds := by
  w_on; o_law; k_head; (case hw => w_witness2)
  k_fill
  refine K30.walk (l := PySem.Challenge.rw_eachitsshare_k30_window_judges_exact) rfl rfl (fun w h Y => PySem.W.kIn_of Y) ?F
  case F =>
    intro w mg fa h KX G hmg
    refine' K30.all_mk KX G hmg ?a1 ?l1 ?c1 ?k1 ?a2 ?l2 ?c2 ?k2 ?a3 ?l3 ?c3 ?k3 ?a4 ?l4 ?c4 ?k4 ?a5 ?l5 ?c5 ?k5 ?a6 ?l6 ?c6 ?k6 ?a7 ?l7 ?c7 ?k7 ?a8 ?l8 ?c8 ?k8 ?a9 ?l9 ?c9 ?k9 ?a10 ?l10 ?c10 ?k10 ?a11 ?l11 ?c11 ?k11 ?a12 ?l12 ?c12 ?k12 ?a13 ?l13 ?c13 ?k13 ?a14 ?l14 ?c14 ?k14 ?a15 ?l15 ?c15 ?k15 ?a16 ?l16 ?c16 ?k16 ?a17 ?l17 ?c17 ?k17 ?a18 ?l18 ?c18 ?k18 ?a19 ?l19 ?c19 ?k19 ?a20 ?l20 ?c20 ?k20 ?a21 ?l21 ?c21 ?k21 ?a22 ?l22 ?c22 ?k22 ?z_abs ?z_all ?z_any ?z_bool ?z_dict ?z_enumerate ?z_int ?z_isinstance ?z_len ?z_list ?z_max ?z_min ?z_range ?z_reversed ?z_set ?z_sorted ?z_str ?z_sum ?z_tuple ?z_zip ?z_ValueError
    (case a1 => k_is)
    (case l1 => k_is)
    (case c1 => k_is)
    (case k1 => k_is)
    (case a2 => k_is)
    (case l2 => k_is)
    (case c2 => k_is)
    (case k2 => k_is)
    (case a3 => k_is)
    (case l3 => k_is)
    (case c3 => k_is)
    (case k3 => k_is)
    (case a4 => k_is)
    (case l4 => k_is)
    (case c4 => k_is)
    (case k4 => k_is)
    (case a5 => k_is)
    (case l5 => k_is)
    (case c5 => k_is)
    (case k5 => k_is)
    (case a6 => k_is)
    (case l6 => k_is)
    (case c6 => k_is)
    (case k6 => k_is)
    (case a7 => k_is)
    (case l7 => k_is)
    (case c7 => k_is)
    (case k7 => k_is)
    (case a8 => k_is)
    (case l8 => k_is)
    (case c8 => k_is)
    (case k8 => k_is)
    (case a9 => k_is)
    (case l9 => k_is)
    (case c9 => k_is)
    (case k9 => k_is)
    (case a10 => k_is)
    (case l10 => k_is)
    (case c10 => k_is)
    (case k10 => k_is)
    (case a11 => k_is)
    (case l11 => k_is)
    (case c11 => k_is)
    (case k11 => k_is)
    (case a12 => k_is)
    (case l12 => k_is)
    (case c12 => k_is)
    (case k12 => k_is)
    (case a13 => k_is)
    (case l13 => k_is)
    (case c13 => k_is)
    (case k13 => k_is)
    (case a14 => k_is)
    (case l14 => k_is)
    (case c14 => k_is)
    (case k14 => k_is)
    (case a15 => k_is)
    (case l15 => k_is)
    (case c15 => k_is)
    (case k15 => k_is)
    (case a16 => k_is)
    (case l16 => k_is)
    (case c16 => k_is)
    (case k16 => k_is)
    (case a17 => k_is)
    (case l17 => k_is)
    (case c17 => k_is)
    (case k17 => k_is)
    (case a18 => k_is)
    (case l18 => k_is)
    (case c18 => k_is)
    (case k18 => k_is)
    (case a19 => k_is)
    (case l19 => k_is)
    (case c19 => k_is)
    (case k19 => k_is)
    (case a20 => k_is)
    (case l20 => k_is)
    (case c20 => k_is)
    (case k20 => k_is)
    (case a21 => k_is)
    (case l21 => k_is)
    (case c21 => k_is)
    (case k21 => k_is)
    (case a22 => k_is)
    (case l22 => k_is)
    (case c22 => k_is)
    (case k22 => k_is)
    (case z_abs => k_is)
    (case z_all => k_is)
    (case z_any => k_is)
    (case z_bool => k_is)
    (case z_dict => k_is)
    (case z_enumerate => k_is)
    (case z_int => k_is)
    (case z_isinstance => k_is)
    (case z_len => k_is)
    (case z_list => k_is)
    (case z_max => k_is)
    (case z_min => k_is)
    (case z_range => k_is)
    (case z_reversed => k_is)
    (case z_set => k_is)
    (case z_sorted => k_is)
    (case z_str => k_is)
    (case z_sum => k_is)
    (case z_tuple => k_is)
    (case z_zip => k_is)
    (case z_ValueError => k_is)
