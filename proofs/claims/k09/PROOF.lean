import PyProof.Rows.All
import Wide.All
import OpenK.AllK
import Wide.FinOn
import HandS.ForMost
import HandS.IsInst
import HandS.Wide
import HandS.Zip
import HandS.TupAny
import HandS.TupSets
import HandS.Deep
import HandS.Flow
import HandS.Conv
import KE.KSortTupG
import PyProof.ReprBulk
import PySem.Challenge.RW_ovensuntold_k09_outcomes_and_heats
set_option Elab.async false
set_option linter.all false
set_option maxRecDepth 100000
/-! DL1: values as trees (tuples by their items, mutable things by their addresses), heaps of such, and the link from the hand layer's readings. -/
namespace DL
open PySem PySem.Spec PyProof.Rows L2
/-- a word that stands still, for the kernel too -/
theorem op_ex {α : Sort u} (a : α) : ∃ b : α, b = a := ⟨a, rfl⟩
noncomputable def hide {α : Sort u} (a : α) : α := Classical.choose (op_ex a)
theorem hide_eq {α : Sort u} (a : α) : hide a = a := Classical.choose_spec (op_ex a)

inductive D where
  | non | bl (b : Bool) | int (i : Int) | str (x : Str) | tup (ds : List D) | ktp (ds : List D) | fls (ds : List D) | loc (a : Addr) | ty (n : String)
/-- a list that is never written: locked, or of the module -/
def SqF (K : PySem.W.Frag) (H : Hp) (a : Addr) (xs : List V) : Prop :=
  (∃ o, H a = some (.frz o (.lst xs))) ∨
    ∃ (o : Obj) (its : Array Value) (n : Nat), K.lookup a = some o ∧ o.cls = .type "list" ∧ o.dict = none ∧ o.data = .seq its n ∧ its.size ≤ sizeLine ∧ Vals xs its.toList
/-- a tuple of the module -/
def SqK (K : PySem.W.Frag) (a : Addr) (xs : List V) : Prop :=
  ∃ (o : Obj) (its : Array Value) (n : Nat), K.lookup a = some o ∧ o.cls = .type "tuple" ∧ o.data = .seq its n ∧ its.size ≤ sizeLine ∧ Vals xs its.toList
theorem SqK.t {K : PySem.W.Frag} {H : Hp} {a : Addr} {xs : List V} (h : SqK K a xs) : SqT K H a xs := .inr h
theorem SqF.l {K : PySem.W.Frag} {H : Hp} {a : Addr} {xs : List V} (h : SqF K H a xs) : SqL K H a xs := by
  rcases h with h | h
  · exact .inl (.inr h)
  · exact .inr h

inductive DO where
  | lst (ds : List D)
  | dK (kvs : List (Key × D))
  | dT (kvs : List (List Key × D))
  | ins (C : Addr) (fs : List (Str × D))
  | opq (o : HO)
abbrev DH := Addr → Option DO
def hupd (h : DH) (a : Addr) (o : DO) : DH := fun b => if b = a then some o else h b
theorem hupd_same {h : DH} {a : Addr} {o : DO} : hupd h a o a = some o := by unfold hupd; rw [if_pos rfl]
theorem hupd_ne {h : DH} {a b : Addr} {o : DO} (e : b ≠ a) : hupd h a o b = h b := by unfold hupd; rw [if_neg e]
theorem hupd_hupd {h : DH} {a : Addr} {o u : DO} : hupd (hupd h a o) a u = hupd h a u := by
  funext b; unfold hupd; split <;> rfl

section
variable (K : PySem.W.Frag) (H : Hp)
mutual
def RV : D → V → Prop
  | .non, v => v = .non
  | .bl b, v => v = .bl b
  | .int i, v => v = .int i
  | .str x, v => v = .str x
  | .ty n, v => v = .ty n
  | .loc a, v => v = .ref a
  | .tup ds, v => ∃ a vs, v = .ref a ∧ H a = some (.tup vs) ∧ RVs ds vs
  | .ktp ds, v => ∃ a vs, v = .ref a ∧ SqK K a vs ∧ RVs ds vs
  | .fls ds, v => ∃ a vs, v = .ref a ∧ SqF K H a vs ∧ RVs ds vs
def RVs : List D → List V → Prop
  | [], vs => vs = []
  | d :: ds, vs => ∃ x xs, vs = x :: xs ∧ RV d x ∧ RVs ds xs
end
def RKV {κ : Type} (kvs : List (κ × D)) (us : List (κ × V)) : Prop := Paired (fun p q => p.1 = q.1 ∧ RV K H p.2 q.2) kvs us
def RO (a : Addr) : DO → Prop
  | .lst ds => ∃ vs, H a = some (.lst vs) ∧ RVs K H ds vs
  | .dK kvs => ∃ us, H a = some (.dK us) ∧ RKV K H kvs us
  | .dT kvs => ∃ us, H a = some (.dT us) ∧ RKV K H kvs us
  | .ins C fs => ∃ dx us, H a = some (.ins C dx us) ∧ RKV K H fs us
  | .opq o => H a = some o
def HR (h : DH) : Prop := ∀ a o, h a = some o → RO K H a o
def TX (H' : Hp) : Prop := (∀ a vs, H a = some (.tup vs) → H' a = some (.tup vs)) ∧ ∀ a vs, SqF K H a vs → SqF K H' a vs
end

section
variable {K : PySem.W.Frag} {H H' H'' : Hp} {h : DH} {a : Addr}
theorem TX.refl : TX K H H := ⟨fun _ _ q => q, fun _ _ q => q⟩
theorem TX.trans (x : TX K H H') (y : TX K H' H'') : TX K H H'' := ⟨fun a vs q => y.1 a vs (x.1 a vs q), fun a vs q => y.2 a vs (x.2 a vs q)⟩
mutual
theorem RV.mono (x : TX K H H') : ∀ (d : D) (v : V), RV K H d v → RV K H' d v
  | .non, _, q => q
  | .bl _, _, q => q
  | .int _, _, q => q
  | .str _, _, q => q
  | .ty _, _, q => q
  | .loc _, _, q => q
  | .tup ds, v, q => by
    unfold RV at q ⊢
    obtain ⟨a, vs, e, s, r⟩ := q
    exact ⟨a, vs, e, x.1 a vs s, RVs.mono x ds vs r⟩
  | .ktp ds, v, q => by
    unfold RV at q ⊢
    obtain ⟨a, vs, e, s, r⟩ := q
    exact ⟨a, vs, e, s, RVs.mono x ds vs r⟩
  | .fls ds, v, q => by
    unfold RV at q ⊢
    obtain ⟨a, vs, e, s, r⟩ := q
    exact ⟨a, vs, e, x.2 a vs s, RVs.mono x ds vs r⟩
theorem RVs.mono (x : TX K H H') : ∀ (ds : List D) (vs : List V), RVs K H ds vs → RVs K H' ds vs
  | [], _, q => q
  | d :: ds, vs, q => by
    unfold RVs at q ⊢
    obtain ⟨y, ys, e, r1, r2⟩ := q
    exact ⟨y, ys, e, RV.mono x d y r1, RVs.mono x ds ys r2⟩
end
theorem RKV.mono {κ : Type} (x : TX K H H') {kvs : List (κ × D)} {us : List (κ × V)} (r : RKV K H kvs us) : RKV K H' kvs us :=
  Paired.mapP r fun p q z => ⟨z.1, RV.mono x _ _ z.2⟩
theorem rvs_nil {vs : List V} (r : RVs K H [] vs) : vs = [] := by unfold RVs at r; exact r
theorem rvs_nil' : RVs K H [] [] := by unfold RVs; rfl
theorem rvs_cons {d : D} {ds : List D} {vs : List V} (r : RVs K H (d :: ds) vs) : ∃ x xs, vs = x :: xs ∧ RV K H d x ∧ RVs K H ds xs := by unfold RVs at r; exact r
theorem rvs_cons' {d : D} {ds : List D} {x : V} {xs : List V} (r : RV K H d x) (s : RVs K H ds xs) : RVs K H (d :: ds) (x :: xs) := by unfold RVs; exact ⟨x, xs, rfl, r, s⟩
theorem RVs.length : ∀ {ds : List D} {vs : List V}, RVs K H ds vs → ds.length = vs.length
  | [], vs, r => by rw [rvs_nil r]; rfl
  | d :: ds, vs, r => by
    obtain ⟨x, xs, e, _, r2⟩ := rvs_cons r
    subst e
    simp [RVs.length r2]
theorem RVs.get : ∀ {ds : List D} {vs : List V} {i : Nat} {d : D}, RVs K H ds vs → ds[i]? = some d → ∃ v, vs[i]? = some v ∧ RV K H d v
  | [], _, _, _, _, e => by simp at e
  | d :: ds, vs, 0, d', r, e => by
    obtain ⟨x, xs, e1, r1, _⟩ := rvs_cons r
    subst e1
    simp at e; subst e
    exact ⟨x, rfl, r1⟩
  | d :: ds, vs, i + 1, d', r, e => by
    obtain ⟨x, xs, e1, _, r2⟩ := rvs_cons r
    subst e1
    obtain ⟨v, h1, h2⟩ := RVs.get (i := i) r2 (by simpa using e)
    exact ⟨v, by simpa using h1, h2⟩
theorem RVs.append : ∀ {ds es : List D} {vs ws : List V}, RVs K H ds vs → RVs K H es ws → RVs K H (ds ++ es) (vs ++ ws)
  | [], _, vs, _, r, s => by rw [rvs_nil r]; exact s
  | d :: ds, es, vs, ws, r, s => by
    obtain ⟨x, xs, e1, r1, r2⟩ := rvs_cons r
    subst e1
    exact rvs_cons' r1 (RVs.append r2 s)
theorem RVs.take : ∀ {ds : List D} {vs : List V} (n : Nat), RVs K H ds vs → RVs K H (ds.take n) (vs.take n)
  | _, _, 0, _ => by simp [rvs_nil']
  | [], vs, n + 1, r => by rw [rvs_nil r]; exact rvs_nil'
  | d :: ds, vs, n + 1, r => by
    obtain ⟨x, xs, e1, r1, r2⟩ := rvs_cons r
    subst e1
    exact rvs_cons' r1 (RVs.take n r2)
theorem RVs.drop : ∀ {ds : List D} {vs : List V} (n : Nat), RVs K H ds vs → RVs K H (ds.drop n) (vs.drop n)
  | _, _, 0, r => r
  | [], vs, n + 1, r => by rw [rvs_nil r]; exact rvs_nil'
  | d :: ds, vs, n + 1, r => by
    obtain ⟨x, xs, e1, r1, r2⟩ := rvs_cons r
    subst e1
    exact RVs.drop n r2
theorem RVs.set {d : D} {v : V} (r : RV K H d v) : ∀ {ds : List D} {vs : List V} (i : Nat), RVs K H ds vs → RVs K H (ds.set i d) (vs.set i v)
  | [], vs, _, s => by rw [rvs_nil s]; exact rvs_nil'
  | d' :: ds, vs, 0, s => by
    obtain ⟨x, xs, e1, r1, r2⟩ := rvs_cons s
    subst e1
    exact rvs_cons' r r2
  | d' :: ds, vs, i + 1, s => by
    obtain ⟨x, xs, e1, r1, r2⟩ := rvs_cons s
    subst e1
    exact rvs_cons' r1 (RVs.set r i r2)
theorem RVs.reverse {ds : List D} {vs : List V} (r : RVs K H ds vs) : RVs K H ds.reverse vs.reverse := by
  induction ds generalizing vs with
  | nil => rw [rvs_nil r]; exact rvs_nil'
  | cons d ds ih =>
    obtain ⟨x, xs, e1, r1, r2⟩ := rvs_cons r
    subst e1
    rw [List.reverse_cons, List.reverse_cons]
    exact (ih r2).append (rvs_cons' r1 rvs_nil')
theorem RVs.ints : ∀ {ns : List Int} {vs : List V}, RVs K H (ns.map D.int) vs → vs = ns.map V.int
  | [], vs, r => by rw [rvs_nil r]; rfl
  | n :: ns, vs, r => by
    obtain ⟨x, xs, e1, r1, r2⟩ := rvs_cons r
    subst e1
    unfold RV at r1
    subst r1
    rw [RVs.ints r2]; rfl
theorem rvs_ints : ∀ ns : List Int, RVs K H (ns.map D.int) (ns.map V.int)
  | [] => rvs_nil'
  | n :: ns => rvs_cons' (by unfold RV; rfl) (rvs_ints ns)
theorem rv_tup {ds : List D} {v : V} (r : RV K H (.tup ds) v) : ∃ a vs, v = .ref a ∧ H a = some (.tup vs) ∧ RVs K H ds vs := by unfold RV at r; exact r
theorem rv_ktp {ds : List D} {v : V} (r : RV K H (.ktp ds) v) : ∃ a vs, v = .ref a ∧ SqK K a vs ∧ RVs K H ds vs := by unfold RV at r; exact r
theorem rv_ktp' {ds : List D} {a : Addr} {vs : List V} (s : SqK K a vs) (r : RVs K H ds vs) : RV K H (.ktp ds) (.ref a) := by unfold RV; exact ⟨a, vs, rfl, s, r⟩
theorem rv_tup' {ds : List D} {a : Addr} {vs : List V} (s : H a = some (.tup vs)) (r : RVs K H ds vs) : RV K H (.tup ds) (.ref a) := by unfold RV; exact ⟨a, vs, rfl, s, r⟩
theorem rv_fls {ds : List D} {v : V} (r : RV K H (.fls ds) v) : ∃ a vs, v = .ref a ∧ SqF K H a vs ∧ RVs K H ds vs := by unfold RV at r; exact r
theorem rv_fls' {ds : List D} {a : Addr} {vs : List V} (s : SqF K H a vs) (r : RVs K H ds vs) : RV K H (.fls ds) (.ref a) := by unfold RV; exact ⟨a, vs, rfl, s, r⟩
theorem rv_loc {a : Addr} {v : V} (r : RV K H (.loc a) v) : v = .ref a := by unfold RV at r; exact r
theorem rv_loc' {a : Addr} : RV K H (.loc a) (.ref a) := by unfold RV; rfl
theorem rv_int {i : Int} {v : V} (r : RV K H (.int i) v) : v = .int i := by unfold RV at r; exact r
theorem rv_int' {i : Int} : RV K H (.int i) (.int i) := by unfold RV; rfl
theorem rv_bl {i : Bool} {v : V} (r : RV K H (.bl i) v) : v = .bl i := by unfold RV at r; exact r
theorem rv_bl' {i : Bool} : RV K H (.bl i) (.bl i) := by unfold RV; rfl
theorem rv_str {i : Str} {v : V} (r : RV K H (.str i) v) : v = .str i := by unfold RV at r; exact r
theorem rv_str' {i : Str} : RV K H (.str i) (.str i) := by unfold RV; rfl
theorem rv_non {v : V} (r : RV K H .non v) : v = .non := by unfold RV at r; exact r
theorem rv_non' : RV K H .non .non := by unfold RV; rfl
theorem rv_ty {n : String} {v : V} (r : RV K H (.ty n) v) : v = .ty n := by unfold RV at r; exact r
theorem rv_ty' {n : String} : RV K H (.ty n) (.ty n) := by unfold RV; rfl

/-! ### a heap grows, an object is written -/
theorem tx_upd {p : Addr} {o : HO} (hp : ∀ u, H p = some u → (∀ xs, u ≠ .tup xs) ∧ ∀ ob w, u ≠ .frz ob w) : TX K H (upd H p o) :=
  ⟨fun a vs s => by
    have ne : a ≠ p := fun z => by subst z; exact (hp _ s).1 vs rfl
    rw [upd_ne ne]; exact s, fun a vs e => by
    rcases e with ⟨ob, e⟩ | e
    · have ne : a ≠ p := fun z => by subst z; exact (hp _ e).2 ob _ rfl
      exact .inl ⟨ob, by rw [upd_ne ne]; exact e⟩
    · exact .inr e⟩
theorem tx_new {p : Addr} {o : HO} (hp : H p = none) : TX K H (upd H p o) := tx_upd fun u e => by rw [hp] at e; cases e
theorem tx_lst {p : Addr} {o : HO} {xs : List V} (hp : H p = some (.lst xs)) : TX K H (upd H p o) := tx_upd fun u e => by
  rw [hp] at e; cases e
  exact ⟨fun _ z => (by cases z), fun _ _ z => (by cases z)⟩
theorem tx_dK {p : Addr} {o : HO} {xs : List (Key × V)} (hp : H p = some (.dK xs)) : TX K H (upd H p o) := tx_upd fun u e => by
  rw [hp] at e; cases e
  exact ⟨fun _ z => (by cases z), fun _ _ z => (by cases z)⟩
theorem tx_dT {p : Addr} {o : HO} {xs : List (List Key × V)} (hp : H p = some (.dT xs)) : TX K H (upd H p o) := tx_upd fun u e => by
  rw [hp] at e; cases e
  exact ⟨fun _ z => (by cases z), fun _ _ z => (by cases z)⟩
theorem tx_ins {p : Addr} {o : HO} {C dx : Addr} {xs : List (Str × V)} (hp : H p = some (.ins C dx xs)) : TX K H (upd H p o) := tx_upd fun u e => by
  rw [hp] at e; cases e
  exact ⟨fun _ z => (by cases z), fun _ _ z => (by cases z)⟩
theorem ro_keep {o : DO} (x : TX K H H') (e : H' a = H a) (r : RO K H a o) : RO K H' a o := by
  cases o with
  | lst ds =>
    obtain ⟨vs, q, s⟩ := r
    exact ⟨vs, by rw [e]; exact q, RVs.mono x _ _ s⟩
  | dK kvs =>
    obtain ⟨vs, q, s⟩ := r
    exact ⟨vs, by rw [e]; exact q, s.mono x⟩
  | dT kvs =>
    obtain ⟨vs, q, s⟩ := r
    exact ⟨vs, by rw [e]; exact q, s.mono x⟩
  | ins C fs =>
    obtain ⟨dx, vs, q, s⟩ := r
    exact ⟨dx, vs, by rw [e]; exact q, s.mono x⟩
  | opq o => exact (show H' a = some o from by rw [e]; exact r)
/-- what is new to the heap is new to the tree heap -/
theorem HR.free (r : HR K H h) {p : Addr} (hp : H p = none) : h p = none := by
  cases e : h p with
  | none => rfl
  | some o =>
    have q := r p o e
    cases o with
    | lst ds => obtain ⟨vs, q, _⟩ := q; rw [hp] at q; cases q
    | dK ds => obtain ⟨vs, q, _⟩ := q; rw [hp] at q; cases q
    | dT ds => obtain ⟨vs, q, _⟩ := q; rw [hp] at q; cases q
    | ins C ds => obtain ⟨dx, vs, q, _⟩ := q; rw [hp] at q; cases q
    | opq o =>
      have q : H p = some o := q
      rw [hp] at q; cases q
/-- an object is written, or laid -/
theorem HR.put (r : HR K H h) {p : Addr} {o : DO} {O : HO} (x : TX K H (upd H p O)) (n : RO K (upd H p O) p o) : HR K (upd H p O) (hupd h p o) := fun a u e => by
  by_cases z : a = p
  · subst z
    rw [hupd_same] at e; cases e
    exact n
  · rw [hupd_ne z] at e
    exact ro_keep x (upd_ne z) (r a u e)
/-- .. a thing that the tree heap does not tell -/
theorem HR.keep (r : HR K H h) (x : TX K H H') (e : ∀ a, h a ≠ none → H' a = H a) : HR K H' h := fun a o q => ro_keep x (e a (by rw [q]; simp)) (r a o q)
theorem HR.lay (r : HR K H h) {p : Addr} {O : HO} (hp : H p = none) : HR K (upd H p O) h := r.keep (tx_new hp) fun a q => by
  refine upd_ne fun z => ?_
  subst z
  exact q (r.free hp)
end
end DL

set_option Elab.async false
set_option linter.all false
set_option maxRecDepth 100000
/-! DL2: readings over tree heaps, and their links to the hand layer's readings. -/
namespace DL
open PySem PySem.Spec PyProof.Rows L2

abbrev DSt := List (Option D)
abbrev DK := D → DH → Prop
abbrev DE := DSt → DH → DK → Prop
abbrev DT := DSt → DH → (Bool → DH → Prop) → Prop
abbrev DA := DSt → DH → (List D → DH → Prop) → Prop
structure DEnds where
  nx : DSt → DH → Prop
  rt : DK
  bk : DSt → DH → Prop := fun _ _ => False
  ct : DSt → DH → Prop := fun _ _ => False
abbrev DS := DEnds → DSt → DH → Prop
abbrev DR2 := D → D → DH → DK → Prop
abbrev DR1 := D → DH → DK → Prop
abbrev DC := List D → DH → DK → Prop

@[irreducible] noncomputable def kIte : Bool → Prop → Prop → Prop := hide fun b p q => if b = true then p else q
theorem kIte_eq {b : Bool} {p q : Prop} : kIte b p q = if b = true then p else q := by unfold kIte; rw [hide_eq]
theorem kt {p q : Prop} (w : kIte true p q) : p := by rw [kIte_eq] at w; rwa [if_pos rfl] at w
theorem kf {p q : Prop} (w : kIte false p q) : q := by rw [kIte_eq] at w; rwa [if_neg Bool.false_ne_true] at w
/-- the names' trees -/
def RS (K : PySem.W.Frag) (H : Hp) (τ : DSt) (σ : L2.St) : Prop := τ.length = σ.length ∧ ∀ (i : Nat) (d : D), τ[i]? = some (some d) → ∃ v, σ[i]? = some (some v) ∧ RV K H d v
def Bw (K : PySem.W.Frag) (H : Hp) (Q : DK) (Q0 : VK) : Prop := ∀ d h' v H', TX K H H' → RV K H' d v → HR K H' h' → Q d h' → Q0 v H'
def BwT (K : PySem.W.Frag) (H : Hp) (Q : Bool → DH → Prop) (Q0 : Bool → Hp → Prop) : Prop := ∀ b h' H', TX K H H' → HR K H' h' → Q b h' → Q0 b H'
def BwA (K : PySem.W.Frag) (H : Hp) (Q : List D → DH → Prop) (Q0 : List V → Hp → Prop) : Prop := ∀ ds h' vs H', TX K H H' → RVs K H' ds vs → HR K H' h' → Q ds h' → Q0 vs H'
structure BwS (K : PySem.W.Frag) (H : Hp) (D : DEnds) (D0 : Ends) : Prop where
  nx : ∀ τ' σ' h' H', TX K H H' → RS K H' τ' σ' → HR K H' h' → D.nx τ' h' → D0.nx σ' H'
  rt : Bw K H D.rt D0.rt
  bk : ∀ τ' σ' h' H', TX K H H' → RS K H' τ' σ' → HR K H' h' → D.bk τ' h' → D0.bk σ' H'
  ct : ∀ τ' σ' h' H', TX K H H' → RS K H' τ' σ' → HR K H' h' → D.ct τ' h' → D0.ct σ' H'
def LE (K : PySem.W.Frag) (t0 : TE) (t : DE) : Prop := ∀ τ σ h H Q Q0, RS K H τ σ → HR K H h → Bw K H Q Q0 → t τ h Q → t0 σ H Q0
def LT (K : PySem.W.Frag) (t0 : TT) (t : DT) : Prop := ∀ τ σ h H Q Q0, RS K H τ σ → HR K H h → BwT K H Q Q0 → t τ h Q → t0 σ H Q0
def LA (K : PySem.W.Frag) (t0 : TA) (t : DA) : Prop := ∀ τ σ h H Q Q0, RS K H τ σ → HR K H h → BwA K H Q Q0 → t τ h Q → t0 σ H Q0
def LS (K : PySem.W.Frag) (t0 : TS) (t : DS) : Prop := ∀ τ σ h H D D0, RS K H τ σ → HR K H h → BwS K H D D0 → t D τ h → t0 D0 σ H
def LR2 (K : PySem.W.Frag) (r : R2) (q : DR2) : Prop := ∀ d e x y h H Q Q0, RV K H d x → RV K H e y → HR K H h → Bw K H Q Q0 → q d e h Q → r x y H Q0
def LR1 (K : PySem.W.Frag) (r : V → Hp → VK → Prop) (q : DR1) : Prop := ∀ d x h H Q Q0, RV K H d x → HR K H h → Bw K H Q Q0 → q d h Q → r x H Q0
def LC (K : PySem.W.Frag) (r : List V → Hp → VK → Prop) (q : DC) : Prop := ∀ ds vs h H Q Q0, RVs K H ds vs → HR K H h → Bw K H Q Q0 → q ds h Q → r vs H Q0

section
variable {K : PySem.W.Frag} {H H' : Hp}
theorem RS.mono {τ : DSt} {σ : L2.St} (x : TX K H H') (r : RS K H τ σ) : RS K H' τ σ := ⟨r.1, fun i d e => let ⟨v, h1, h2⟩ := r.2 i d e; ⟨v, h1, RV.mono x d v h2⟩⟩
theorem Bw.mono {Q : DK} {Q0 : VK} (x : TX K H H') (r : Bw K H Q Q0) : Bw K H' Q Q0 := fun d h v H2 t => r d h v H2 (x.trans t)
theorem BwT.mono {Q : Bool → DH → Prop} {Q0 : Bool → Hp → Prop} (x : TX K H H') (r : BwT K H Q Q0) : BwT K H' Q Q0 := fun d h H2 t => r d h H2 (x.trans t)
theorem BwA.mono {Q : List D → DH → Prop} {Q0 : List V → Hp → Prop} (x : TX K H H') (r : BwA K H Q Q0) : BwA K H' Q Q0 := fun d h v H2 t => r d h v H2 (x.trans t)
theorem BwS.mono {D : DEnds} {D0 : Ends} (x : TX K H H') (r : BwS K H D D0) : BwS K H' D D0 :=
  ⟨fun a b c d t => r.nx a b c d (x.trans t), r.rt.mono x, fun a b c d t => r.bk a b c d (x.trans t), fun a b c d t => r.ct a b c d (x.trans t)⟩
theorem RS.set {τ : DSt} {σ : L2.St} {d : D} {v : V} (r : RS K H τ σ) (i : Nat) (q : RV K H d v) : RS K H (τ.set i (some d)) (σ.set i (some v)) := by
  refine ⟨by rw [List.length_set, List.length_set]; exact r.1, fun j e hj => ?_⟩
  by_cases z : i = j
  · subst z
    by_cases hl : i < τ.length
    · rw [List.getElem?_set_self hl] at hj
      cases hj
      exact ⟨v, by rw [List.getElem?_set_self (by rw [← r.1]; exact hl)], q⟩
    · rw [List.getElem?_eq_none (by simpa using hl)] at hj; cases hj
  · rw [List.getElem?_set_ne z] at hj ⊢
    exact r.2 j e hj
theorem RS.unset {τ : DSt} {σ : L2.St} (r : RS K H τ σ) (i : Nat) : RS K H (τ.set i none) (σ.set i none) := by
  refine ⟨by rw [List.length_set, List.length_set]; exact r.1, fun j e hj => ?_⟩
  by_cases z : i = j
  · subst z
    by_cases hl : i < τ.length
    · rw [List.getElem?_set_self hl] at hj; cases hj
    · rw [List.getElem?_eq_none (by simpa using hl)] at hj; cases hj
  · rw [List.getElem?_set_ne z] at hj ⊢
    exact r.2 j e hj
end

structure XE (X : Cx) (K : PySem.W.Frag) (e : Expr) (t0 : TE) (t : DE) : Prop where
  p : PE X e t0
  l : LE K t0 t
structure XT (X : Cx) (K : PySem.W.Frag) (e : Expr) (t0 : TT) (t : DT) : Prop where
  p : PT X e t0
  l : LT K t0 t
structure XW (X : Cx) (K : PySem.W.Frag) (e : Expr) (t0 : TT) (t : DT) : Prop where
  p : PW X e t0
  l : LT K t0 t
structure XA (X : Cx) (K : PySem.W.Frag) (es : List Expr) (t0 : TA) (t : DA) : Prop where
  p : PA X es t0
  l : LA K t0 t
structure XS (X : Cx) (K : PySem.W.Frag) (st : Stmt) (t0 : TS) (t : DS) : Prop where
  p : PS X st t0
  l : LS K t0 t
structure XSs (X : Cx) (K : PySem.W.Frag) (st : List Stmt) (t0 : TS) (t : DS) : Prop where
  p : PSs X st t0
  l : LS K t0 t

/-! ### names, constants -/
def ld (τ : DSt) (i : Nat) : Option D := τ.getD i none
def dVar (i : Nat) : DE := fun τ h Q => match ld τ i with
  | some d => Q d h
  | none => False
def dC (d : D) : DE := fun _ h Q => Q d h
section
variable {X : Cx} {K : PySem.W.Frag}
theorem ld_get {τ : DSt} {i : Nat} {d : D} (e : ld τ i = some d) : τ[i]? = some (some d) := by
  unfold ld at e
  rw [List.getD_eq_getElem?_getD] at e
  cases h : τ[i]? with
  | none => rw [h] at e; cases e
  | some o => rw [h] at e; exact congrArg some e
theorem le_var {K : PySem.W.Frag} (i : Nat) : LE K (tVar i) (dVar i) := fun τ σ h H Q Q0 rs hr bw q => by
  unfold dVar at q
  cases e : ld τ i with
  | none => rw [e] at q; exact q.elim
  | some d =>
    rw [e] at q
    obtain ⟨v, h1, h2⟩ := rs.2 i d (ld_get e)
    exact ⟨v, h1, bw d h v H TX.refl h2 hr q⟩
theorem xv (i : Nat) {x : Str} {pos : Pos} (hN : X.N[i]? = some x := by rfl) (hv : Vis X.env.scope x := by first | exact Or.inl rfl | exact Or.inr (Or.inl rfl) | exact Or.inr (Or.inr rfl)) (hd : (x == ("__debug__" : Str)) = false := by decide)
    (hcd : (x == ("__classdict__" : Str)) = false := by decide) : XE X K (.Name x pos) (tVar i) (dVar i) := ⟨pe_var hN hv hd hcd, le_var i⟩
theorem le_c {K : PySem.W.Frag} {v : V} {d : D} (r : ∀ H, RV K H d v) : LE K (tC v) (dC d) := fun τ σ h H Q Q0 rs hr bw q => bw d h v H TX.refl (r H) hr q
theorem xint {i : Int} {j pos} : XE X K (.Constant (.int i) j pos) (tC (.int i)) (dC (.int i)) := ⟨pe_int, le_c fun _ => rv_int'⟩
theorem xbl {i : Bool} {j pos} : XE X K (.Constant (.bool i) j pos) (tC (.bl i)) (dC (.bl i)) := ⟨pe_bl, le_c fun _ => rv_bl'⟩
theorem xnon {j pos} : XE X K (.Constant .none j pos) (tC .non) (dC .non) := ⟨pe_non, le_c fun _ => rv_non'⟩
theorem xstr {i : Str} {j pos} : XE X K (.Constant (.str i) j pos) (tC (.str i)) (dC (.str i)) := ⟨pe_str, le_c fun _ => rv_str'⟩
/-- a constant of the module -/
theorem xglob {x : Str} {v : V} {d : D} {u : Value} {pos : Pos} (hm : X.mg x = some u) (r : RelV v u) (q : ∀ H, RV K H d v) (hg : Gl X x := by rfl) (hd : (x == ("__debug__" : Str)) = false := by decide) : XE X K (.Name x pos) (tC v) (dC d) := ⟨pe_glob hg hm r hd, le_c q⟩
/-- a type as a value -/
theorem xtype {x : Str} {n : String} {pos : Pos} (hm : X.mg x = none) (hv : bootBuiltins x = some (.type n)) (hg : Gl X x := by rfl) (hn : x ≠ "__name__" := by decide) (hd : (x == ("__debug__" : Str)) = false := by decide) : XE X K (.Name x pos) (tC (.ty n)) (dC (.ty n)) :=
  ⟨pe_bltn hg hm hv rfl hn hd, le_c fun _ => rv_ty'⟩
end

/-! ### operators -/
def dOp (q : DR2) (a b : DE) : DE := fun τ h Q => a τ h fun x h1 => b τ h1 fun y h2 => q x y h2 Q
def dUn (q : DR1) (a : DE) : DE := fun τ h Q => a τ h fun x h1 => q x h1 Q
section
variable {X : Cx} {K : PySem.W.Frag} {a b c : Expr} {ta tb tc : TE} {da db dc : DE} {pos : Pos}
theorem le_op {K : PySem.W.Frag} {r : R2} {q : DR2} (lr : LR2 K r q) (la : LE K ta da) (lb : LE K tb db) : LE K (tOp r ta tb) (dOp q da db) := fun τ σ h H Q Q0 rs hr bw w =>
  la τ σ h H _ _ rs hr (fun d h1 v H1 x1 r1 hr1 w1 => lb τ σ h1 H1 _ _ (rs.mono x1) hr1 (fun e h2 u H2 x2 r2 hr2 w2 => lr d e v u h2 H2 Q Q0 (RV.mono x2 d v r1) r2 hr2 (bw.mono (x1.trans x2)) w2) w1) w
theorem le_un {K : PySem.W.Frag} {r : V → Hp → VK → Prop} {q : DR1} (lr : LR1 K r q) (la : LE K ta da) : LE K (tUn r ta) (dUn q da) := fun τ σ h H Q Q0 rs hr bw w =>
  la τ σ h H _ _ rs hr (fun d h1 v H1 x1 r1 hr1 w1 => lr d v h1 H1 Q Q0 r1 hr1 (bw.mono x1) w1) w
theorem xop {op : Operator} {r : R2} {q : DR2} (o : OpR X (binaryOp op) r ∧ LR2 K r q) (ha : XE X K a ta da) (hb : XE X K b tb db) : XE X K (.BinOp a op b pos) (tOp r ta tb) (dOp q da db) := ⟨pe_op o.1 ha.p hb.p, le_op o.2 ha.l hb.l⟩
theorem xun {op : UnaryOp} {r : V → Hp → VK → Prop} {q : DR1} (o : UnR X (unaryOp op) r ∧ LR1 K r q) (ha : XE X K a ta da) : XE X K (.UnaryOp op a pos) (tUn r ta) (dUn q da) := ⟨pe_un o.1 ha.p, le_un o.2 ha.l⟩
/-- a comparison's two ways: as a value, as a test -/
theorem xcmp {op : CmpOp} {r : R2} {q : DR2} (o : OpR X (compareOp op) r ∧ LR2 K r q) (ha : XE X K a ta da) (hb : XE X K b tb db) (hm : behindInMarks op b = false := by first | exact nomark _ | rfl) : XE X K (.Compare a [op] [b] pos) (tOp r ta tb) (dOp q da db) := ⟨pe_cmpR o.1 ha.p hb.p hm, le_op o.2 ha.l hb.l⟩
def dTest (t : DE) : DT := fun τ h Q => t τ h fun x h' => match x with
  | .bl k => Q k h'
  | _ => False
theorem lt_test {K : PySem.W.Frag} {t : TE} {d : DE} (l : LE K t d) : LT K (tTest t) (dTest d) := fun τ σ h H Q Q0 rs hr bw w =>
  l τ σ h H _ _ rs hr (fun x h1 v H1 x1 r1 hr1 w1 => by
    cases x with
    | bl k => exact ⟨k, rv_bl r1, bw k h1 H1 x1 hr1 w1⟩
    | _ => exact w1.elim) w
theorem xtcmp {op : CmpOp} {r : R2} {q : DR2} (o : OpR X (compareOp op) r ∧ LR2 K r q) (ha : XE X K a ta da) (hb : XE X K b tb db) (hm : behindInMarks op b = false := by first | exact nomark _ | rfl) : XT X K (.Compare a [op] [b] pos) (tTest (tOp r ta tb)) (dTest (dOp q da db)) := ⟨pt_cmpR o.1 ha.p hb.p hm, lt_test (le_op o.2 ha.l hb.l)⟩
/-- an expression whose value is a bool, as a test -/
theorem xtval {e : Expr} {t : TE} {d : DE} (h : XE X K e t d) (he : ∀ whole, isTrue e X.env whole = (do let v ← whole; standAt e.pos; holding [v] (truthy v)) := by intro _; rfl) : XT X K e (tB t) (dTest d) := ⟨pt_val h.p he, lt_test h.l⟩
end

section
variable {X : Cx} {K : PySem.W.Frag} {a b c : Expr} {ta tb tc : TE} {da db dc : DE} {pos : Pos} {t t' : TT} {d d' : DT} {rest : List Expr}
def dAnd (t u : DT) : DT := fun τ h Q => t τ h fun c h1 => kIte c (u τ h1 Q) (Q false h1)
def dOr (t u : DT) : DT := fun τ h Q => t τ h fun c h1 => kIte c (Q true h1) (u τ h1 Q)
def dNot (t : DT) : DT := fun τ h Q => t τ h fun c h1 => Q (!c) h1
theorem xwand1 (ha : XT X K a t d) : XW X K (.BoolOp .And [a] pos) t d := ⟨pw_and1 ha.p, ha.l⟩
theorem xwor1 (ha : XT X K a t d) : XW X K (.BoolOp .Or [a] pos) t d := ⟨pw_or1 ha.p, ha.l⟩
theorem xwand (ha : XT X K a t d) (hb : XW X K (.BoolOp .And (b :: rest) pos) t' d') : XW X K (.BoolOp .And (a :: b :: rest) pos) (tAnd t t') (dAnd d d') :=
  ⟨pw_and ha.p hb.p, fun τ σ h H Q Q0 rs hr bw w => ha.l τ σ h H _ _ rs hr (fun k h1 H1 x1 hr1 w1 => by
    cases k with
    | true => have w1 := kt w1; rw [if_pos rfl]; exact hb.l τ σ h1 H1 Q Q0 (rs.mono x1) hr1 (bw.mono x1) w1
    | false => have w1 := kf w1; rw [if_neg Bool.false_ne_true]; exact bw false h1 H1 x1 hr1 w1) w⟩
theorem xwor (ha : XT X K a t d) (hb : XW X K (.BoolOp .Or (b :: rest) pos) t' d') : XW X K (.BoolOp .Or (a :: b :: rest) pos) (tOr t t') (dOr d d') :=
  ⟨pw_or ha.p hb.p, fun τ σ h H Q Q0 rs hr bw w => ha.l τ σ h H _ _ rs hr (fun k h1 H1 x1 hr1 w1 => by
    cases k with
    | true => have w1 := kt w1; rw [if_pos rfl]; exact bw true h1 H1 x1 hr1 w1
    | false => have w1 := kf w1; rw [if_neg Bool.false_ne_true]; exact hb.l τ σ h1 H1 Q Q0 (rs.mono x1) hr1 (bw.mono x1) w1) w⟩
theorem XW.toT {e : Expr} (h : XW X K e t d) : XT X K e t d := ⟨h.p.pt, h.l⟩
theorem xtnot (ha : XT X K a t d) : XT X K (.UnaryOp .Not a pos) (tNot t) (dNot d) :=
  ⟨pt_not ha.p, fun τ σ h H Q Q0 rs hr bw w => ha.l τ σ h H _ _ rs hr (fun k h1 H1 x1 hr1 w1 => bw (!k) h1 H1 x1 hr1 w1) w⟩
/-- and, or, not as values of bools -/
def dAndV (a b : DE) : DE := fun τ h Q => a τ h fun x h1 => match x with
  | .bl c => kIte c (b τ h1 Q) (Q (.bl false) h1)
  | _ => False
def dOrV (a b : DE) : DE := fun τ h Q => a τ h fun x h1 => match x with
  | .bl c => kIte c (Q (.bl true) h1) (b τ h1 Q)
  | _ => False
def dNotV (a : DE) : DE := fun τ h Q => a τ h fun x h1 => match x with
  | .bl c => Q (.bl (!c)) h1
  | _ => False
theorem xone {op} (h : XE X K a ta da) : XE X K (.BoolOp op [a] pos) ta da := ⟨pe_one h.p, h.l⟩
theorem xand (ha : XE X K a ta da) (hb : XE X K (.BoolOp .And (b :: rest) pos) tb db) : XE X K (.BoolOp .And (a :: b :: rest) pos) (tAndV ta tb) (dAndV da db) :=
  ⟨pe_and ha.p hb.p, fun τ σ h H Q Q0 rs hr bw w => ha.l τ σ h H _ _ rs hr (fun x h1 v H1 x1 r1 hr1 w1 => by
    cases x with
    | bl k =>
      refine ⟨k, rv_bl r1, ?_⟩
      cases k with
      | true => have w1 := kt w1; exact hb.l τ σ h1 H1 Q Q0 (rs.mono x1) hr1 (bw.mono x1) w1
      | false => have w1 := kf w1; exact bw _ h1 _ H1 x1 rv_bl' hr1 w1
    | _ => exact w1.elim) w⟩
theorem xor (ha : XE X K a ta da) (hb : XE X K (.BoolOp .Or (b :: rest) pos) tb db) : XE X K (.BoolOp .Or (a :: b :: rest) pos) (tOrV ta tb) (dOrV da db) :=
  ⟨pe_or ha.p hb.p, fun τ σ h H Q Q0 rs hr bw w => ha.l τ σ h H _ _ rs hr (fun x h1 v H1 x1 r1 hr1 w1 => by
    cases x with
    | bl k =>
      refine ⟨k, rv_bl r1, ?_⟩
      cases k with
      | false => have w1 := kf w1; exact hb.l τ σ h1 H1 Q Q0 (rs.mono x1) hr1 (bw.mono x1) w1
      | true => have w1 := kt w1; exact bw _ h1 _ H1 x1 rv_bl' hr1 w1
    | _ => exact w1.elim) w⟩
theorem xnot (ha : XE X K a ta da) : XE X K (.UnaryOp .Not a pos) (tNotV ta) (dNotV da) :=
  ⟨pe_not ha.p, fun τ σ h H Q Q0 rs hr bw w => ha.l τ σ h H _ _ rs hr (fun x h1 v H1 x1 r1 hr1 w1 => by
    cases x with
    | bl k => exact ⟨k, rv_bl r1, bw _ h1 _ H1 x1 rv_bl' hr1 w1⟩
    | _ => exact w1.elim) w⟩
/-- a if t else b -/
def dIf (t : DT) (a b : DE) : DE := fun τ h Q => t τ h fun c h1 => kIte c (a τ h1 Q) (b τ h1 Q)
theorem xif {c : Expr} (hc : XT X K c t d) (ha : XE X K a ta da) (hb : XE X K b tb db) : XE X K (.IfExp c a b pos) (tIf t ta tb) (dIf d da db) :=
  ⟨pe_ifExp hc.p ha.p hb.p, fun τ σ h H Q Q0 rs hr bw w => hc.l τ σ h H _ _ rs hr (fun k h1 H1 x1 hr1 w1 => by
    cases k with
    | true => have w1 := kt w1; exact ha.l τ σ h1 H1 Q Q0 (rs.mono x1) hr1 (bw.mono x1) w1
    | false => have w1 := kf w1; exact hb.l τ σ h1 H1 Q Q0 (rs.mono x1) hr1 (bw.mono x1) w1) w⟩
/-- chains of two comparisons -/
def dChain (q q' : DR2) (a b c : DE) : DE := fun τ h Q => a τ h fun x h1 => b τ h1 fun y h2 => q x y h2 fun z h3 => match z with
  | .bl k => kIte k (c τ h3 fun w h4 => q' y w h4 Q) (Q (.bl false) h3)
  | _ => False
end
end DL

set_option Elab.async false
set_option linter.all false
set_option maxRecDepth 100000
/-! DL3: data, operators, displays, subscripts. -/
namespace DL
open PySem PySem.Spec PyProof.Rows L2

/-! ### data as it stands -/
mutual
inductive PD (h : DH) : D → PyData → Prop
  | non : PD h .non .none
  | bl (b : Bool) : PD h (.bl b) (.bool b)
  | int (i : Int) : PD h (.int i) (.int i)
  | str (x : Str) : PD h (.str x) (.str x)
  | tup {ds : List D} {ps : List PyData} : PDs h ds ps → PD h (.tup ds) (.tuple ps)
  | ktp {ds : List D} {ps : List PyData} : PDs h ds ps → PD h (.ktp ds) (.tuple ps)
  | fls {ds : List D} {ps : List PyData} : PDs h ds ps → PD h (.fls ds) (.list ps)
  | lst {a : Addr} {ds : List D} {ps : List PyData} : h a = some (.lst ds) → PDs h ds ps → PD h (.loc a) (.list ps)
inductive PDs (h : DH) : List D → List PyData → Prop
  | nil : PDs h [] []
  | cons {d : D} {ds : List D} {p : PyData} {ps : List PyData} : PD h d p → PDs h ds ps → PDs h (d :: ds) (p :: ps)
end
def Ext (h h' : DH) : Prop := ∀ a o, h a = some o → h' a = some o
theorem Ext.refl (h : DH) : Ext h h := fun _ _ q => q
theorem Ext.trans {h h' h'' : DH} (x : Ext h h') (y : Ext h' h'') : Ext h h'' := fun a o q => y a o (x a o q)
theorem ext_new {h : DH} {p : Addr} {o : DO} (hp : h p = none) : Ext h (hupd h p o) := fun a u q => by
  rw [hupd_ne (fun e => by subst e; rw [hp] at q; cases q)]; exact q
section
variable {h h' : DH}
mutual
theorem PD.ext (x : Ext h h') : ∀ {d : D} {p : PyData}, PD h d p → PD h' d p
  | _, _, .non => .non
  | _, _, .bl b => .bl b
  | _, _, .int b => .int b
  | _, _, .str b => .str b
  | _, _, .tup q => .tup (PDs.ext x q)
  | _, _, .ktp q => .ktp (PDs.ext x q)
  | _, _, .fls q => .fls (PDs.ext x q)
  | _, _, .lst e q => .lst (x _ _ e) (PDs.ext x q)
theorem PDs.ext (x : Ext h h') : ∀ {d : List D} {p : List PyData}, PDs h d p → PDs h' d p
  | _, _, .nil => .nil
  | _, _, .cons q r => .cons (PD.ext x q) (PDs.ext x r)
end
mutual
theorem PD.dp {K : PySem.W.Frag} {H : Hp} (hr : HR K H h) : ∀ {d : D} {p : PyData} {v : V}, PD h d p → RV K H d v → Dp K H v p
  | _, _, _, .non, r => by rw [rv_non r]; exact .non
  | _, _, _, .bl b, r => by rw [rv_bl r]; exact .bl b
  | _, _, _, .int b, r => by rw [rv_int r]; exact .int b
  | _, _, _, .str b, r => by rw [rv_str r]; exact .str b
  | _, _, _, .tup q, r => by
    obtain ⟨a, vs, e, s, rs⟩ := rv_tup r
    subst e
    exact .tup (.inl (.inl s)) (PDs.dp hr q rs)
  | _, _, _, .ktp q, r => by
    obtain ⟨a, vs, e, s, rs⟩ := rv_ktp r
    subst e
    exact .tup s.t (PDs.dp hr q rs)
  | _, _, _, .fls q, r => by
    obtain ⟨a, vs, e, s, rs⟩ := rv_fls r
    subst e
    exact .lst s.l (PDs.dp hr q rs)
  | _, _, _, .lst e q, r => by
    obtain ⟨vs, s, rs⟩ := hr _ _ e
    rw [rv_loc r]
    exact .lst (.inl (.inl s)) (PDs.dp hr q rs)
theorem PDs.dp {K : PySem.W.Frag} {H : Hp} (hr : HR K H h) : ∀ {ds : List D} {ps : List PyData} {vs : List V}, PDs h ds ps → RVs K H ds vs → DpAll K H vs ps
  | _, _, _, .nil, r => by rw [rvs_nil r]; exact .nil
  | _, _, _, .cons q s, r => by
    obtain ⟨x, xs, e, r1, r2⟩ := rvs_cons r
    subst e
    exact .cons (PD.dp hr q r1) (PDs.dp hr s r2)
end
mutual
theorem PD.noDict : ∀ {d : D} {p : PyData}, PD h d p → p.hasDict = false
  | _, _, .non => by simp [PyData.hasDict]
  | _, _, .bl b => by simp [PyData.hasDict]
  | _, _, .int b => by simp [PyData.hasDict]
  | _, _, .str b => by simp [PyData.hasDict]
  | _, _, .tup q => by simp only [PyData.hasDict]; exact PDs.noDict q
  | _, _, .ktp q => by simp only [PyData.hasDict]; exact PDs.noDict q
  | _, _, .fls q => by simp only [PyData.hasDict]; exact PDs.noDict q
  | _, _, .lst e q => by simp only [PyData.hasDict]; exact PDs.noDict q
theorem PDs.noDict : ∀ {ds : List D} {ps : List PyData}, PDs h ds ps → PyData.hasDictAll ps = false
  | _, _, .nil => by simp [PyData.hasDictAll]
  | _, _, .cons q s => by simp [PyData.hasDictAll, PD.noDict q, PDs.noDict s]
end
end

/-! ### operators by value -/
def dSize (n : Nat) : Prop := n ≤ sizeLine
def dAdd : DR2
  | .int i, .int j, h, Q => Q (.int (i + j)) h
  | .str x, .str y, h, Q => x.length + y.length ≤ sizeLine ∧ Q (.str (x ++ y)) h
  | .tup xs, .tup ys, h, Q => xs.length + ys.length ≤ sizeLine ∧ Q (.tup (xs ++ ys)) h
  | .loc a, .loc b, h, Q => ∃ xs ys, h a = some (.lst xs) ∧ h b = some (.lst ys) ∧ xs.length + ys.length ≤ sizeLine ∧ ∀ p, h p = none → Q (.loc p) (hupd h p (.lst (xs ++ ys)))
  | _, _, _, _ => False
def dSub : DR2
  | .int i, .int j, h, Q => Q (.int (i - j)) h
  | _, _, _, _ => False
def MulOk (i j : Int) : Prop := (-(2 ^ 64) < i ∧ i < 2 ^ 64) ∨ (-(2 ^ 64) < j ∧ j < 2 ^ 64) ∨ (i.natAbs < 2 ^ 250 ∧ j.natAbs < 2 ^ 250)
def dMul : DR2
  | .int i, .int j, h, Q => MulOk i j ∧ Q (.int (i * j)) h
  | .loc a, .int k, h, Q => ∃ xs, h a = some (.lst xs) ∧ 0 ≤ k ∧ k < 2 ^ 63 ∧ xs.length * k.toNat ≤ sizeLine ∧ ∀ p, h p = none → Q (.loc p) (hupd h p (.lst (List.replicate k.toNat xs).flatten))
  | _, _, _, _ => False
def DivOk (j : Int) : Prop := 0 < j ∧ j < 2 ^ 250
def dFdiv : DR2
  | .int i, .int j, h, Q => DivOk j ∧ Q (.int (i / j)) h
  | _, _, _, _ => False
def dMod : DR2
  | .int i, .int j, h, Q => 0 < j ∧ Q (.int (i % j)) h
  | _, _, _, _ => False
def dPow : DR2
  | .int i, .int j, h, Q => (0 ≤ j ∧ j ≤ 1000000 ∧ i.natAbs < 2 ^ 64) ∧ Q (.int (i ^ j.toNat)) h
  | _, _, _, _ => False
def dNeg : DR1
  | .int i, h, Q => Q (.int (-i)) h
  | _, _, _ => False
def dCmp (f : Int → Int → Bool) : DR2
  | .int i, .int j, h, Q => Q (.bl (f i j)) h
  | _, _, _, _ => False
def isNon : D → Bool
  | .non => true
  | _ => false
def dIsN (neg : Bool) : DR2
  | x, .non, h, Q => Q (.bl (if neg then !isNon x else isNon x)) h
  | _, _, _, _ => False
def dEq (neg : Bool) : DR2 := fun x y h Q => ∃ p q, PD h x p ∧ PD h y q ∧ SeqAt.shaped p = true ∧ SeqAt.shaped q = true ∧ Q (.bl (if neg then !PyData.eqv p q else PyData.eqv p q)) h

section
variable {X : Cx} {K : PySem.W.Frag}
theorem lrI {C : Int → Int → Prop} {g : Int → Int → Int} {q : DR2} (h1 : ∀ x y h Q, q x y h Q → ∃ i j, x = .int i ∧ y = .int j ∧ C i j ∧ Q (.int (g i j)) h) : LR2 K (rI C fun i j => .int (g i j)) q := fun d e x y h H Q Q0 r1 r2 hr bw w => by
  obtain ⟨i, j, e1, e2, c, w1⟩ := h1 d e h Q w
  rw [e1] at r1; rw [e2] at r2
  exact ⟨i, j, rv_int r1, rv_int r2, c, bw _ h _ H TX.refl rv_int' hr w1⟩
theorem lrI0 {g : Int → Int → Int} {q : DR2} (h1 : ∀ x y h Q, q x y h Q → ∃ i j, x = .int i ∧ y = .int j ∧ Q (.int (g i j)) h) : LR2 K (rI0 fun i j => .int (g i j)) q := fun d e x y h H Q Q0 r1 r2 hr bw w => by
  obtain ⟨i, j, e1, e2, w1⟩ := h1 d e h Q w
  rw [e1] at r1; rw [e2] at r2
  exact ⟨i, j, rv_int r1, rv_int r2, bw _ h _ H TX.refl rv_int' hr w1⟩
theorem lr_cmp (f : Int → Int → Bool) : LR2 K (rI0 fun i j => .bl (f i j)) (dCmp f) := fun d e x y h H Q Q0 r1 r2 hr bw w => by
  cases d with
  | int i =>
    cases e with
    | int j => exact ⟨i, j, rv_int r1, rv_int r2, bw _ h _ H TX.refl rv_bl' hr w⟩
    | _ => exact w.elim
  | _ => exact w.elim
theorem q_sub : OpR X (binaryOp .Sub) (rI0 fun i j => .int (i - j)) ∧ LR2 K (rI0 fun i j => .int (i - j)) dSub := ⟨op_sub, lrI0 fun x y h Q w => by
  cases x <;> cases y <;> first | exact w.elim | exact ⟨_, _, rfl, rfl, w⟩⟩
theorem q_fdiv : OpR X (binaryOp .FloorDiv) (rI CDivW fun i j => .int (i / j)) ∧ LR2 K (rI CDivW fun i j => .int (i / j)) dFdiv := ⟨op_fdivW, lrI fun x y h Q w => by
  cases x <;> cases y <;> first
    | exact w.elim
    | (obtain ⟨⟨c1, c2⟩, w⟩ := w
       exact ⟨_, _, rfl, rfl, wide_div (b := 250) c1 (by omega) (by decide) (by decide), w⟩)⟩
theorem q_mod : OpR X (binaryOp .Mod) (rI (fun _ j => 0 < j) fun i j => .int (i % j)) ∧ LR2 K (rI (fun _ j => 0 < j) fun i j => .int (i % j)) dMod := ⟨op_mod, lrI fun x y h Q w => by
  cases x <;> cases y <;> first | exact w.elim | exact ⟨_, _, rfl, rfl, w.1, w.2⟩⟩
theorem q_pow : OpR X (binaryOp .Pow) (rI CPow fun i j => .int (i ^ j.toNat)) ∧ LR2 K (rI CPow fun i j => .int (i ^ j.toNat)) dPow := ⟨op_pow, lrI fun x y h Q w => by
  cases x <;> cases y <;> first | exact w.elim | exact ⟨_, _, rfl, rfl, w.1, w.2⟩⟩
theorem q_lt : OpR X (compareOp .Lt) (rI0 fun i j => .bl (decide (i < j))) ∧ LR2 K (rI0 fun i j => .bl (decide (i < j))) (dCmp fun i j => decide (i < j)) := ⟨op_lt, lr_cmp _⟩
theorem q_le : OpR X (compareOp .LtE) (rI0 fun i j => .bl (decide (i ≤ j))) ∧ LR2 K (rI0 fun i j => .bl (decide (i ≤ j))) (dCmp fun i j => decide (i ≤ j)) := ⟨op_le, lr_cmp _⟩
theorem q_gt : OpR X (compareOp .Gt) (rI0 fun i j => .bl (decide (j < i))) ∧ LR2 K (rI0 fun i j => .bl (decide (j < i))) (dCmp fun i j => decide (j < i)) := ⟨op_gt, lr_cmp _⟩
theorem q_ge : OpR X (compareOp .GtE) (rI0 fun i j => .bl (decide (j ≤ i))) ∧ LR2 K (rI0 fun i j => .bl (decide (j ≤ i))) (dCmp fun i j => decide (j ≤ i)) := ⟨op_ge, lr_cmp _⟩
theorem q_neg : UnR X (unaryOp .USub) (rU fun i => .int (-i)) ∧ LR1 K (rU fun i => .int (-i)) dNeg := ⟨un_neg, fun d x h H Q Q0 r1 hr bw w => by
  cases d with
  | int i => exact ⟨i, rv_int r1, bw _ h _ H TX.refl rv_int' hr w⟩
  | _ => exact w.elim⟩
theorem isNon_v {d : D} {v : V} {H : Hp} (r : RV K H d v) : decide (v = .non) = isNon d := by
  cases d with
  | non => rw [rv_non r]; rfl
  | bl b => rw [rv_bl r]; rfl
  | int b => rw [rv_int r]; rfl
  | str b => rw [rv_str r]; rfl
  | ty b => rw [rv_ty r]; rfl
  | loc b => rw [rv_loc r]; rfl
  | tup ds => obtain ⟨a, vs, e, _⟩ := rv_tup r; rw [e]; rfl
  | ktp ds => obtain ⟨a, vs, e, _⟩ := rv_ktp r; rw [e]; rfl
  | fls ds => obtain ⟨a, vs, e, _⟩ := rv_fls r; rw [e]; rfl
theorem q_is : OpR X (compareOp .Is) (fun x y H Q => y = .non ∧ Q (.bl (decide (x = .non))) H) ∧ LR2 K (fun x y H Q => y = .non ∧ Q (.bl (decide (x = .non))) H) (dIsN false) := ⟨op_isN, fun d e x y h H Q Q0 r1 r2 hr bw w => by
  cases e with
  | non =>
    refine ⟨rv_non r2, ?_⟩
    rw [isNon_v r1]
    exact bw _ h _ H TX.refl rv_bl' hr w
  | _ => exact w.elim⟩
theorem q_isnot : OpR X (compareOp .IsNot) (fun x y H Q => y = .non ∧ Q (.bl (!decide (x = .non))) H) ∧ LR2 K (fun x y H Q => y = .non ∧ Q (.bl (!decide (x = .non))) H) (dIsN true) := ⟨op_notN, fun d e x y h H Q Q0 r1 r2 hr bw w => by
  cases e with
  | non =>
    refine ⟨rv_non r2, ?_⟩
    rw [isNon_v r1]
    exact bw _ h _ H TX.refl rv_bl' hr w
  | _ => exact w.elim⟩
theorem q_eq (hu : X.A.units + 64 < cLine) (hK : X.K = K := by rfl) : OpR X (compareOp .Eq) (rEqD K) ∧ LR2 K (rEqD K) (dEq false) := ⟨by subst hK; exact op_eqD hu, fun d e x y h H Q Q0 r1 r2 hr bw ⟨p, q, p1, p2, s1, s2, w⟩ =>
  ⟨p, q, p1.dp hr r1, p2.dp hr r2, s1, s2, bw _ h _ H TX.refl rv_bl' hr w⟩⟩
theorem q_ne (hu : X.A.units + 64 < cLine) (hK : X.K = K := by rfl) : OpR X (compareOp .NotEq) (rNeD K) ∧ LR2 K (rNeD K) (dEq true) := ⟨by subst hK; exact op_neD hu, fun d e x y h H Q Q0 r1 r2 hr bw ⟨p, q, p1, p2, s1, s2, w⟩ =>
  ⟨p, q, p1.dp hr r1, p2.dp hr r2, s1, s2, bw _ h _ H TX.refl rv_bl' hr w⟩⟩
/-- a new thing is laid -/
theorem bw_new {h : DH} {H : Hp} {Q : DK} {Q0 : VK} {p : Addr} {o : DO} {O : HO} (hr : HR K H h) (bw : Bw K H Q Q0) (hp : H p = none) (n : RO K (upd H p O) p o) (w : h p = none → Q (.loc p) (hupd h p o)) : Q0 (.ref p) (upd H p O) :=
  bw _ _ _ _ (tx_new hp) rv_loc' (hr.put (tx_new hp) n) (w (hr.free hp))
theorem bw_tup {h : DH} {H : Hp} {Q : DK} {Q0 : VK} {p : Addr} {ds : List D} {vs : List V} (hr : HR K H h) (bw : Bw K H Q Q0) (hp : H p = none) (r : RVs K H ds vs) (w : Q (.tup ds) h) : Q0 (.ref p) (upd H p (.tup vs)) :=
  bw _ _ _ _ (tx_new hp) (rv_tup' upd_same (RVs.mono (tx_new hp) _ _ r)) (hr.lay hp) w
theorem ro_lst {H : Hp} {p : Addr} {ds : List D} {vs : List V} (x : TX K H (upd H p (.lst vs))) (r : RVs K H ds vs) : RO K (upd H p (.lst vs)) p (.lst ds) := ⟨vs, upd_same, RVs.mono x _ _ r⟩
def rAddU (K : PySem.W.Frag) : R2 := fun x y H Q => rI0 (fun i j => .int (i + j)) x y H Q ∨ ((∃ i j, x = .str i ∧ y = .str j ∧ i.length + j.length ≤ sizeLine ∧ Q (.str (i ++ j)) H) ∨ (rCatA K x y H Q ∨ rCat x y H Q))
theorem q_add (hK : X.K = K := by rfl) : OpR X (binaryOp .Add) (rAddU K) ∧ LR2 K (rAddU K) dAdd := by
  subst hK
  refine ⟨op_add.or (op_add_str.or (op_catA.or op_cat)), fun d e x y h H Q Q0 r1 r2 hr bw w => ?_⟩
  cases d with
  | int i =>
    cases e with
    | int j => exact .inl ⟨i, j, rv_int r1, rv_int r2, bw _ h _ H TX.refl rv_int' hr w⟩
    | _ => exact w.elim
  | str i =>
    cases e with
    | str j => exact .inr (.inl ⟨i, j, rv_str r1, rv_str r2, w.1, bw _ h _ H TX.refl rv_str' hr w.2⟩)
    | _ => exact w.elim
  | tup ds =>
    cases e with
    | tup es =>
      obtain ⟨a, xs, e1, s1, q1⟩ := rv_tup r1
      obtain ⟨b, ys, e2, s2, q2⟩ := rv_tup r2
      have z1 := q1.length
      have z2 := q2.length
      obtain ⟨w1, w⟩ := w
      refine .inr (.inr (.inl ⟨a, b, xs, ys, e1, e2, .inl (.inl s1), .inl (.inl s2), by omega, fun z => ?_, fun z1 z => ?_, fun z1 z p hp => ?_⟩))
      · subst z
        have e0 : ds = [] := List.length_eq_zero_iff.mp (by simpa using z1)
        subst e0
        exact bw _ h _ H TX.refl (rv_tup' s2 q2) hr w
      · subst z
        have e0 : es = [] := List.length_eq_zero_iff.mp (by simpa using z2)
        subst e0
        rw [List.append_nil] at w
        exact bw _ h _ H TX.refl (rv_tup' s1 q1) hr w
      · exact bw_tup hr bw hp (q1.append q2) w
    | _ => exact w.elim
  | loc a =>
    cases e with
    | loc b =>
      obtain ⟨xs, ys, h1, h2, z, w⟩ := w
      obtain ⟨vs, s1, q1⟩ := hr _ _ h1
      obtain ⟨us, s2, q2⟩ := hr _ _ h2
      have z1 := q1.length
      have z2 := q2.length
      exact .inr (.inr (.inr ⟨a, b, vs, us, rv_loc r1, rv_loc r2, s1, s2, by omega, fun p hp => bw_new hr bw hp (ro_lst (tx_new hp) (q1.append q2)) (w p)⟩))
    | _ => exact w.elim
  | _ => exact w.elim
theorem rvs_rep {H : Hp} {ds : List D} {vs : List V} (r : RVs K H ds vs) : ∀ k : Nat, RVs K H (List.replicate k ds).flatten (List.replicate k vs).flatten
  | 0 => rvs_nil'
  | k + 1 => by
    rw [List.replicate_succ, List.replicate_succ, List.flatten_cons, List.flatten_cons]
    exact r.append (rvs_rep r k)
def rMulU (K : PySem.W.Frag) : R2 := fun x y H Q => rI CMul (fun i j => .int (i * j)) x y H Q ∨ (rI CMulW (fun i j => .int (i * j)) x y H Q ∨ rRep x y H Q)
theorem q_mul : OpR X (binaryOp .Mult) (rMulU K) ∧ LR2 K (rMulU K) dMul := by
  refine ⟨op_mul.or (op_mulW.or op_rep), fun d e x y h H Q Q0 r1 r2 hr bw w => ?_⟩
  cases d with
  | int i =>
    cases e with
    | int j =>
      obtain ⟨c, w1⟩ := w
      have fin := bw _ h _ H TX.refl (rv_int' (i := i * j)) hr w1
      rcases c with c | c | ⟨c1, c2⟩
      · exact .inl ⟨i, j, rv_int r1, rv_int r2, .inl c, fin⟩
      · exact .inl ⟨i, j, rv_int r1, rv_int r2, .inr c, fin⟩
      · exact .inr (.inl ⟨i, j, rv_int r1, rv_int r2, wide_mul c1 c2 (by decide) (by decide) (by decide), fin⟩)
    | _ => exact w.elim
  | loc a =>
    cases e with
    | int k =>
      obtain ⟨xs, h1, k0, k1, z, w1⟩ := w
      obtain ⟨vs, s1, q1⟩ := hr _ _ h1
      have z1 := q1.length
      exact .inr (.inr ⟨a, k, vs, rv_loc r1, rv_int r2, s1, by omega, k1, by rw [← z1]; exact z, fun p hp => bw_new hr bw hp (ro_lst (tx_new hp) (rvs_rep q1 _)) (w1 p)⟩)
    | _ => exact w.elim
  | _ => exact w.elim

/-! ### argument lists, displays -/
def dNil : DA := fun _ h Q => Q [] h
def dCons (a : DE) (r : DA) : DA := fun τ h Q => a τ h fun x h1 => r τ h1 fun xs h2 => Q (x :: xs) h2
def dTup (r : DA) : DE := fun τ h Q => r τ h fun xs h1 => xs.length ≤ sizeLine ∧ Q (.tup xs) h1
def dLst (r : DA) : DE := fun τ h Q => r τ h fun xs h1 => xs.length ≤ sizeLine ∧ ∀ p, h1 p = none → Q (.loc p) (hupd h1 p (.lst xs))
variable {e : Expr} {es : List Expr} {te : TE} {de : DE} {ta : TA} {da : DA} {pos : Pos}
theorem xnil : XA X K [] tNil dNil := ⟨pa_nil, fun τ σ h H Q Q0 rs hr bw w => bw [] h [] H TX.refl rvs_nil' hr w⟩
theorem xcons (he : XE X K e te de) (ha : XA X K es ta da) (hs : starEach (e :: es) X.env = (false, eval e X.env) :: starEach es X.env := by rfl) : XA X K (e :: es) (tCons te ta) (dCons de da) :=
  ⟨pa_cons he.p ha.p hs, fun τ σ h H Q Q0 rs hr bw w => he.l τ σ h H _ _ rs hr (fun d h1 v H1 x1 r1 hr1 w1 =>
    ha.l τ σ h1 H1 _ _ (rs.mono x1) hr1 (fun ds h2 vs H2 x2 r2 hr2 w2 => bw _ h2 _ H2 (x1.trans x2) (rvs_cons' (RV.mono x2 d v r1) r2) hr2 w2) w1) w⟩
theorem xtup {k} (h : XA X K es ta da) : XE X K (.Tuple es k pos) (tTup ta) (dTup da) :=
  ⟨pe_tup h.p, fun τ σ h0 H Q Q0 rs hr bw w => h.l τ σ h0 H _ _ rs hr (fun ds h1 vs H1 x1 r1 hr1 w1 => ⟨by rw [← r1.length]; exact w1.1, fun p hp => bw_tup hr1 (bw.mono x1) hp r1 w1.2⟩) w⟩
theorem xlst (h : XA X K es ta da) : XE X K (.List es pos) (tLst ta) (dLst da) :=
  ⟨pe_lst h.p, fun τ σ h0 H Q Q0 rs hr bw w => h.l τ σ h0 H _ _ rs hr (fun ds h1 vs H1 x1 r1 hr1 w1 => ⟨by rw [← r1.length]; exact w1.1, fun p hp => bw_new hr1 (bw.mono x1) hp (ro_lst (tx_new hp) r1) (w1.2 p)⟩) w⟩
end
end DL

set_option Elab.async false
set_option linter.all false
set_option maxRecDepth 100000
/-! DL4: subscripts, slices, dicts, targets, statements. -/
namespace DL
open PySem PySem.Spec PyProof.Rows L2

/-! ### keys -/
def keyD : D → Option Key
  | .int i => some (.inl i)
  | .str x => some (.inr x)
  | _ => none
def keysD : List D → Option (List Key)
  | [] => some []
  | d :: ds => match keyD d, keysD ds with
    | some k, some ks => some (k :: ks)
    | _, _ => none
def valD {κ : Type} [DecidableEq κ] (kvs : List (κ × D)) (k : κ) : Option D := (kvs.find? fun kv => decide (kv.1 = k)).map (·.2)
def putD {κ : Type} [DecidableEq κ] (kvs : List (κ × D)) (k : κ) (v : D) : List (κ × D) :=
  if (kvs.any fun kv => decide (kv.1 = k)) = true then kvs.map (fun kv => if kv.1 = k then (kv.1, v) else kv) else kvs ++ [(k, v)]
section
variable {K : PySem.W.Frag} {H : Hp}
theorem keyD_v {d : D} {k : Key} {v : V} (e : keyD d = some k) (r : RV K H d v) : v = kV k := by
  cases d with
  | int i => cases e; exact rv_int r
  | str x => cases e; exact rv_str r
  | _ => cases e
theorem keysD_v : ∀ {ds : List D} {ks : List Key} {vs : List V}, keysD ds = some ks → RVs K H ds vs → vs = ks.map kV
  | [], ks, vs, e, r => by cases e; rw [rvs_nil r]; rfl
  | d :: ds, ks, vs, e, r => by
    obtain ⟨x, xs, e1, r1, r2⟩ := rvs_cons r
    subst e1
    unfold keysD at e
    cases h1 : keyD d with
    | none => rw [h1] at e; cases e
    | some k =>
      cases h2 : keysD ds with
      | none => rw [h1, h2] at e; cases e
      | some kr =>
        rw [h1, h2] at e
        cases e
        rw [keyD_v h1 r1, keysD_v h2 r2]; rfl
theorem rkv_find {κ : Type} [DecidableEq κ] {kvs : List (κ × D)} {us : List (κ × V)} (r : RKV K H kvs us) (k : κ) : (valD kvs k = none ∧ valV us k = none) ∨ ∃ d v, valD kvs k = some d ∧ valV us k = some v ∧ RV K H d v := by
  unfold RKV at r
  induction r with
  | nil => exact .inl ⟨rfl, rfl⟩
  | @cons p q ps qs hq t ih =>
    by_cases e : p.1 = k
    · refine .inr ⟨p.2, q.2, by simp [valD, List.find?_cons, e], by simp [valV, List.find?_cons, ← hq.1, e], hq.2⟩
    · have e2 : ¬ q.1 = k := by rw [← hq.1]; exact e
      have h1 : valD (p :: ps) k = valD ps k := by simp [valD, List.find?_cons, e]
      have h2 : valV (q :: qs) k = valV qs k := by simp [valV, List.find?_cons, e2]
      rw [h1, h2]
      exact ih
theorem rkv_any {κ : Type} [DecidableEq κ] {kvs : List (κ × D)} {us : List (κ × V)} (r : RKV K H kvs us) (k : κ) : (kvs.any fun kv => decide (kv.1 = k)) = us.any fun kv => decide (kv.1 = k) := by
  unfold RKV at r
  induction r with
  | nil => rfl
  | @cons p q ps qs hq t ih => rw [List.any_cons, List.any_cons, ih, hq.1]
theorem rkv_put {κ : Type} [DecidableEq κ] {kvs : List (κ × D)} {us : List (κ × V)} (r : RKV K H kvs us) (k : κ) {d : D} {v : V} (rv : RV K H d v) : RKV K H (putD kvs k d) (putK us k v) := by
  unfold putD putK
  rw [rkv_any r k]
  split
  · unfold RKV at r ⊢
    rename_i z
    clear z
    induction r with
    | nil => exact .nil
    | @cons p q ps qs hq t ih =>
      rw [List.map_cons, List.map_cons]
      refine .cons ?_ ih
      by_cases e : p.1 = k
      · rw [if_pos e, if_pos (by rw [← hq.1]; exact e)]; exact ⟨hq.1, rv⟩
      · rw [if_neg e, if_neg (by rw [← hq.1]; exact e)]; exact hq
  · unfold RKV at r ⊢
    rename_i z
    clear z
    induction r with
    | nil => exact .cons ⟨rfl, rv⟩ .nil
    | @cons p q ps qs hq t ih => exact .cons hq ih
theorem rkv_length {κ : Type} {kvs : List (κ × D)} {us : List (κ × V)} (r : RKV K H kvs us) : kvs.length = us.length := Paired.length r
end

/-! ### a[b] -/
def need0 (o : Option D) (h : DH) (Q : DK) : Prop := match o with
  | some d => Q d h
  | none => False
@[irreducible] noncomputable def need : Option D → DH → DK → Prop := hide need0
theorem need_eq {o : Option D} {h : DH} {Q : DK} : need o h Q = need0 o h Q := by unfold need; rw [hide_eq]
theorem need_of {o : Option D} {h : DH} {Q : DK} (w : need o h Q) : ∃ d, o = some d ∧ Q d h := by
  rw [need_eq] at w; unfold need0 at w
  cases o with
  | none => exact w.elim
  | some d => exact ⟨d, rfl, w⟩
def getI : List D → D → Option D
  | xs, .int i => atI xs i
  | _, _ => none
def getS : Str → D → Option D
  | z, .int i => if z.length ≤ sizeLine then (atI z.cps.toList i).map fun c => .str ⟨#[c]⟩ else none
  | _, _ => none
def getT (kvs : List (List Key × D)) : D → Option D
  | .tup ks => (keysD ks).bind (valD kvs)
  | _ => none
def getO : Option DO → D → Option D
  | some (.lst xs), y => getI xs y
  | some (.dK kvs), y => (keyD y).bind (valD kvs)
  | some (.dT kvs), y => getT kvs y
  | _, _ => none
def ixD (h : DH) (x y : D) : Option D := match x with
  | .tup xs => getI xs y
  | .ktp xs => getI xs y
  | .fls xs => getI xs y
  | .str z => getS z y
  | .loc a => getO (h a) y
  | _ => none
def dIx : DR2 := fun x y h Q => need (ixD h x y) h Q
section
variable {X : Cx} {K : PySem.W.Frag}
theorem atI_rvs {H : Hp} {ds : List D} {vs : List V} {i : Int} {d : D} (r : RVs K H ds vs) (e : atI ds i = some d) : ∃ v, atI vs i = some v ∧ RV K H d v := by
  unfold atI at e ⊢
  rw [← r.length]
  cases h : ixN ds.length i with
  | none => rw [h] at e; cases e
  | some j =>
    rw [h] at e
    have e : ds[j]? = some d := e
    exact r.get e
def rIxD : R2 := fun x y H Q => ∃ a v, x = .ref a ∧ DGet H a y (some v) ∧ Q v H
theorem ix_dict (hu : X.A.units + 1 < cLine) : IxR X rIxD := by
  intro value slice pins s σ H x y v u Q I rx ry h hs
  obtain ⟨a, w, rfl, g, q⟩ := h
  cases rx
  exact tail_any (dict_typeIs I g) PySem.F.slot_dict_getitem.lookup (d_getItem hu I g ry fun w' s' I' r => ⟨w, H, I', r, q⟩) hs
def rIxU (K : PySem.W.Frag) : R2 := fun x y H Q => rIx K x y H Q ∨ rIxD x y H Q
theorem ix_all (hu : X.A.units + 1 < cLine) : IxR X (rIxU X.K) := ix_seq.or (ix_dict hu)
theorem getI_rvs {H : Hp} {ds : List D} {vs : List V} {e : D} {y : V} {d : D} (r : RVs K H ds vs) (ry : RV K H e y) (z : getI ds e = some d) : ∃ i v, y = .int i ∧ atI vs i = some v ∧ RV K H d v := by
  cases e with
  | int i =>
    obtain ⟨v, h1, h2⟩ := atI_rvs r (show atI ds i = some d from z)
    exact ⟨i, v, rv_int ry, h1, h2⟩
  | _ => cases z
theorem lr_ix : LR2 K (rIxU K) dIx := fun d e x y h H Q Q0 r1 r2 hr bw w => by
  obtain ⟨d0, z, w1⟩ := need_of w
  cases d with
  | tup ds =>
    obtain ⟨a, vs, e1, s, q⟩ := rv_tup r1
    obtain ⟨i, v, ey, h1, h2⟩ := getI_rvs q r2 z
    exact .inl (.inr (.inl ⟨a, vs, i, v, e1, ey, .inl (.inl s), h1, bw _ h _ H TX.refl h2 hr w1⟩))
  | ktp ds =>
    obtain ⟨a, vs, e1, s, q⟩ := rv_ktp r1
    obtain ⟨i, v, ey, h1, h2⟩ := getI_rvs q r2 z
    exact .inl (.inr (.inl ⟨a, vs, i, v, e1, ey, s.t, h1, bw _ h _ H TX.refl h2 hr w1⟩))
  | fls ds =>
    obtain ⟨a, vs, e1, s, q⟩ := rv_fls r1
    obtain ⟨i, v, ey, h1, h2⟩ := getI_rvs q r2 z
    exact .inl (.inl ⟨a, vs, i, v, e1, ey, s.l, h1, bw _ h _ H TX.refl h2 hr w1⟩)
  | str x0 =>
    cases e with
    | int i =>
      have z : (if x0.length ≤ sizeLine then (atI x0.cps.toList i).map fun c => D.str ⟨#[c]⟩ else none) = some d0 := z
      by_cases hl : x0.length ≤ sizeLine
      · rw [if_pos hl] at z
        obtain ⟨c, z1, z2⟩ := Option.map_eq_some_iff.mp z
        subst z2
        exact .inl (.inr (.inr ⟨x0, i, c, rv_str r1, rv_int r2, hl, z1, bw _ h _ H TX.refl rv_str' hr w1⟩))
      · rw [if_neg hl] at z; cases z
    | _ => cases z
  | loc a =>
    have e1 := rv_loc r1
    have z : getO (h a) e = some d0 := z
    cases ha : h a with
    | none => rw [ha] at z; cases z
    | some o =>
      rw [ha] at z
      cases o with
      | lst xs =>
        obtain ⟨vs, s, q⟩ := hr _ _ ha
        obtain ⟨i, v, ey, h1, h2⟩ := getI_rvs q r2 z
        exact .inl (.inl ⟨a, vs, i, v, e1, ey, .inl (.inl s), h1, bw _ h _ H TX.refl h2 hr w1⟩)
      | dK kvs =>
        obtain ⟨us, s, q⟩ := hr _ _ ha
        obtain ⟨k, z1, z2⟩ := Option.bind_eq_some_iff.mp (show (keyD e).bind (valD kvs) = some d0 from z)
        rcases rkv_find q k with ⟨n1, _⟩ | ⟨d1, v0, n1, n2, rv⟩
        · rw [n1] at z2; cases z2
        · rw [n1] at z2; cases z2
          refine .inr ⟨a, v0, e1, ?_, bw _ h _ H TX.refl rv hr w1⟩
          rw [keyD_v z1 r2, ← n2]
          exact DGet.k s
      | dT kvs =>
        obtain ⟨us, s, q⟩ := hr _ _ ha
        cases e with
        | tup ks =>
          obtain ⟨k, z1, z2⟩ := Option.bind_eq_some_iff.mp (show (keysD ks).bind (valD kvs) = some d0 from z)
          obtain ⟨b, bs, eb, sb, qb⟩ := rv_tup r2
          rcases rkv_find q k with ⟨n1, _⟩ | ⟨d1, v0, n1, n2, rv⟩
          · rw [n1] at z2; cases z2
          · rw [n1] at z2; cases z2
            refine .inr ⟨a, v0, e1, ?_, bw _ h _ H TX.refl rv hr w1⟩
            rw [eb, ← n2]
            exact DGet.t s (by rw [sb, keysD_v z1 qb])
        | _ => cases z
      | _ => cases z
  | _ => cases z
variable {a b : Expr} {ta tb : TE} {da db : DE} {pos : Pos}
theorem xix (hu : X.A.units + 1 < cLine) (ha : XE X K a ta da) (hb : XE X K b tb db) (hs : PlainIx b := by exact fun _ _ => rfl) (hK : X.K = K := by rfl) : XE X K (.Subscript a b pos) (tOp (rIxU K) ta tb) (dOp dIx da db) := ⟨by subst hK; exact pe_ix (ix_all hu) ha.p hb.p hs, le_op lr_ix ha.l hb.l⟩
end

/-! ### slices -/
def cutD (xs : List D) (lo hi : Option Int) : List D := (xs.drop (HT.sIx xs.length 0 lo)).take (HT.sIx xs.length xs.length hi - HT.sIx xs.length 0 lo)
abbrev DO' := DSt → DH → (Option Int → DH → Prop) → Prop
def LO (K : PySem.W.Frag) (t0 : TO) (t : DO') : Prop := ∀ τ σ h H (Q : Option Int → DH → Prop) (Q0 : Option Int → Hp → Prop), RS K H τ σ → HR K H h → (∀ o h' H', TX K H H' → HR K H' h' → Q o h' → Q0 o H') → t τ h Q → t0 σ H Q0
structure XO (X : Cx) (K : PySem.W.Frag) (e : Option Expr) (t0 : TO) (t : DO') : Prop where
  p : PO X e t0
  l : LO K t0 t
def dNoPart : DO' := fun _ h Q => Q none h
def dPart (t : DE) : DO' := fun τ h Q => t τ h fun x h1 => match x with
  | .int i => Q (some i) h1
  | _ => False
def lstO : Option DO → Option (List D)
  | some (.lst xs) => some xs
  | _ => none
def seqD (h : DH) : D → Option (List D)
  | .loc a => lstO (h a)
  | .fls xs => some xs
  | _ => none
def dCut (x : D) (lo hi : Option Int) (h : DH) (Q : DK) : Prop := match x with
  | .tup xs => Q (.tup (cutD xs lo hi)) h
  | .str z => z.length ≤ sizeLine ∧ Q (.str (cutS z lo hi)) h
  | y => match seqD h y with
    | some xs => ∀ p, h p = none → Q (.loc p) (hupd h p (.lst (cutD xs lo hi)))
    | none => False
theorem lstO_of {o : Option DO} {xs : List D} (e : lstO o = some xs) : o = some (.lst xs) := by
  cases o with
  | none => cases e
  | some u => cases u <;> cases e; rfl
def dSl (t : DE) (l u : DO') : DE := fun τ h Q => t τ h fun x h1 => l τ h1 fun lo h2 => u τ h2 fun hi h3 => dCut x lo hi h3 Q
section
variable {X : Cx} {K : PySem.W.Frag}
theorem xo_none : XO X K none tNoPart dNoPart := ⟨po_none, fun τ σ h H Q Q0 rs hr bw w => bw none h H TX.refl hr w⟩
theorem xo_some {e : Expr} {t : TE} {d : DE} (x : XE X K e t d) : XO X K (some e) (tPart t) (dPart d) := ⟨po_some x.p, fun τ σ h H Q Q0 rs hr bw w => x.l τ σ h H _ _ rs hr (fun y h1 v H1 x1 r1 hr1 w1 => by
  cases y with
  | int i => exact ⟨i, rv_int r1, bw _ h1 H1 x1 hr1 w1⟩
  | _ => exact w1.elim) w⟩
def rSlU (K : PySem.W.Frag) : V → Option Int → Option Int → Hp → VK → Prop := fun x lo hi H Q => rSlA K x lo hi H Q ∨ (rSlL K x lo hi H Q ∨ rSlS x lo hi H Q)
theorem cut_rvs {H : Hp} {ds : List D} {vs : List V} (r : RVs K H ds vs) (lo hi : Option Int) : RVs K H (cutD ds lo hi) (cutV vs lo hi) := by
  unfold cutD cutV
  rw [r.length]
  exact (r.drop _).take _
theorem cutD_whole {ds : List D} {lo hi : Option Int} (e : HT.sIx ds.length 0 lo = 0 ∧ HT.sIx ds.length ds.length hi = ds.length) : cutD ds lo hi = ds := by
  unfold cutD
  rw [e.1, e.2, List.drop_zero, Nat.sub_zero, List.take_length]
theorem xsl {e : Expr} {te : TE} {de : DE} {lo hi : Option Expr} {tl th : TO} {dl dh : DO'} {pos p2 : Pos} (he : XE X K e te de) (hl : XO X K lo tl dl) (hh : XO X K hi th dh) (hK : X.K = K := by rfl) : XE X K (.Subscript e (.Slice lo hi none p2) pos) (tSl (rSlU K) te tl th) (dSl de dl dh) := by
  subst hK
  refine ⟨pe_slice (sl_tupA.or (sl_list.or sl_str)) he.p hl.p hh.p, fun τ σ h H Q Q0 rs hr bw w => he.l τ σ h H _ _ rs hr (fun y h1 v H1 x1 r1 hr1 w1 => hl.l τ σ h1 H1 _ _ (rs.mono x1) hr1 (fun i h2 H2 x2 hr2 w2 => hh.l τ σ h2 H2 _ _ (rs.mono (x1.trans x2)) hr2 (fun j h3 H3 x3 hr3 w3 => ?_) w2) w1) w⟩
  have r := RV.mono (x2.trans x3) _ _ r1
  have bw := bw.mono ((x1.trans x2).trans x3)
  cases y with
  | tup ds =>
    obtain ⟨a, vs, e1, s, q⟩ := rv_tup r
    refine .inl ⟨a, vs, e1, .inl (.inl s), fun z => ?_, fun z p hp => bw_tup hr3 bw hp (cut_rvs q i j) w3⟩
    rw [← q.length] at z
    have w3 : Q (.tup (cutD ds i j)) h3 := w3
    rw [cutD_whole z] at w3
    exact bw _ h3 _ H3 TX.refl (rv_tup' s q) hr3 w3
  | loc a =>
    have w3 : (match lstO (h3 a) with | some xs => ∀ p, h3 p = none → Q (.loc p) (hupd h3 p (.lst (cutD xs i j))) | none => False) := w3
    cases ha : lstO (h3 a) with
    | none => rw [ha] at w3; exact w3.elim
    | some xs =>
      rw [ha] at w3
      obtain ⟨vs, s, q⟩ := hr3 _ _ (lstO_of ha)
      exact .inr (.inl ⟨a, vs, rv_loc r, .inl (.inl s), fun p hp => bw_new hr3 bw hp (ro_lst (tx_new hp) (cut_rvs q i j)) (w3 p)⟩)
  | fls xs =>
    obtain ⟨a, vs, e1, s, q⟩ := rv_fls r
    exact .inr (.inl ⟨a, vs, e1, s.l, fun p hp => bw_new hr3 bw hp (ro_lst (tx_new hp) (cut_rvs q i j)) (w3 p)⟩)
  | str z => exact .inr (.inr ⟨z, rv_str r, w3.1, bw _ h3 _ H3 TX.refl rv_str' hr3 w3.2⟩)
  | _ => exact w3.elim
end

/-! ### dicts: {} -/
def dNewK : DE := fun _ h Q => ∀ p, h p = none → Q (.loc p) (hupd h p (.dK []))
def dNewT : DE := fun _ h Q => ∀ p, h p = none → Q (.loc p) (hupd h p (.dT []))
theorem ro_dK {K : PySem.W.Frag} {H : Hp} {p : Addr} {kvs : List (Key × D)} {us : List (Key × V)} (r : RKV K (upd H p (.dK us)) kvs us) : RO K (upd H p (.dK us)) p (.dK kvs) := ⟨us, upd_same, r⟩
theorem ro_dT {K : PySem.W.Frag} {H : Hp} {p : Addr} {kvs : List (List Key × D)} {us : List (List Key × V)} (r : RKV K (upd H p (.dT us)) kvs us) : RO K (upd H p (.dT us)) p (.dT kvs) := ⟨us, upd_same, r⟩
section
variable {X : Cx} {K : PySem.W.Frag} {pos : Pos}
theorem xnewK : XE X K (.Dict [] [] pos) tDNewK dNewK := ⟨pe_dnewK, fun τ σ h H Q Q0 rs hr bw w p hp => bw_new hr bw hp (ro_dK (kvs := []) .nil) (w p)⟩
theorem xnewT : XE X K (.Dict [] [] pos) tDNewT dNewT := ⟨pe_dnewT, fun τ σ h H Q Q0 rs hr bw w p hp => bw_new hr bw hp (ro_dT (kvs := []) .nil) (w p)⟩
end

/-! ### targets -/
abbrev DTG := D → DSt → DH → (DSt → DH → Prop) → Prop
abbrev DTGs := List D → DSt → DH → (DSt → DH → Prop) → Prop
def BwG (K : PySem.W.Frag) (H : Hp) (Q : DSt → DH → Prop) (Q0 : L2.St → Hp → Prop) : Prop := ∀ τ' σ' h' H', TX K H H' → RS K H' τ' σ' → HR K H' h' → Q τ' h' → Q0 σ' H'
theorem BwG.mono {K : PySem.W.Frag} {H H' : Hp} {Q : DSt → DH → Prop} {Q0 : L2.St → Hp → Prop} (x : TX K H H') (r : BwG K H Q Q0) : BwG K H' Q Q0 := fun a b c d t => r a b c d (x.trans t)
def LG (K : PySem.W.Frag) (g0 : TG) (g : DTG) : Prop := ∀ d v τ σ h H Q Q0, RV K H d v → RS K H τ σ → HR K H h → BwG K H Q Q0 → g d τ h Q → g0 v σ H Q0
def LGs (K : PySem.W.Frag) (g0 : TGs) (g : DTGs) : Prop := ∀ d v τ σ h H Q Q0, RVs K H d v → RS K H τ σ → HR K H h → BwG K H Q Q0 → g d τ h Q → g0 v σ H Q0
structure XG (X : Cx) (K : PySem.W.Frag) (e : Expr) (g0 : TG) (g : DTG) : Prop where
  p : PG X e g0
  l : LG K g0 g
structure XGs (X : Cx) (K : PySem.W.Frag) (es : List Expr) (g0 : TGs) (g : DTGs) : Prop where
  p : PGs X es g0
  l : LGs K g0 g
def gdName (i : Nat) : DTG := fun d τ h Q => Q (τ.set i (some d)) h
def gdNil : DTGs := fun ds τ h Q => match ds with
  | [] => Q τ h
  | _ => False
def gdCons (g : DTG) (r : DTGs) : DTGs := fun ds τ h Q => match ds with
  | d :: ds => g d τ h fun τ' h' => r ds τ' h' Q
  | [] => False
def gdTup (n : Nat) (g : DTGs) : DTG := fun d τ h Q => match d with
  | .tup ds => ds.length = n ∧ g ds τ h Q
  | .ktp ds => ds.length = n ∧ g ds τ h Q
  | _ => False
def setI (xs : List D) (v : D) : D → Option DO
  | .int i => (ixN xs.length i).map fun j => .lst (xs.set j v)
  | _ => none
def setT (kvs : List (List Key × D)) (v : D) : D → Option DO
  | .tup ks => if kvs.length < sizeLine then (keysD ks).map fun k => .dT (putD kvs k v) else none
  | _ => none
def setO : Option DO → D → D → Option DO
  | some (.lst xs), y, v => setI xs v y
  | some (.dK kvs), y, v => if kvs.length < sizeLine then (keyD y).map fun k => .dK (putD kvs k v) else none
  | some (.dT kvs), y, v => setT kvs v y
  | _, _, _ => none
def dSet0 (o y v : D) (h : DH) (Q : DH → Prop) : Prop := match o with
  | .loc a => (match setO (h a) y v with
    | some u => Q (hupd h a u)
    | none => False)
  | _ => False
@[irreducible] noncomputable def dSet : D → D → D → DH → (DH → Prop) → Prop := hide dSet0
theorem dSet_eq {o y v : D} {h : DH} {Q : DH → Prop} : dSet o y v h Q = dSet0 o y v h Q := by unfold dSet; rw [hide_eq]
def gdSub (to ti : DE) : DTG := fun d τ h Q => to τ h fun o h1 => ti τ h1 fun i h2 => dSet o i d h2 fun h3 => Q τ h3
section
variable {X : Cx} {K : PySem.W.Frag} {pos : Pos}
theorem xg_name {i : Nat} {x : Str} (hN : X.N.Nodup) (hi : X.N[i]? = some x := by rfl) (hx : Loc X.env.scope x := by first | exact Or.inl rfl | exact Or.inr rfl) (hf : X.fn x = true ∨ X.env.scope.names.lookup x = some .local := by first | exact .inl rfl | exact .inr rfl) : XG X K (.Name x pos) (gName i) (gdName i) :=
  ⟨pg_name hN hi hx hf, fun d v τ σ h H Q Q0 r rs hr bw w => bw _ _ h H TX.refl (rs.set i r) hr w⟩
theorem xgs_nil : XGs X K [] gNil gdNil := ⟨pgs_nil, fun d v τ σ h H Q Q0 r rs hr bw w => by
  cases d with
  | nil => exact ⟨rvs_nil r, bw _ _ h H TX.refl rs hr w⟩
  | cons _ _ => exact w.elim⟩
theorem xgs_cons {e : Expr} {es : List Expr} {t : TG} {u : TGs} {dt : DTG} {du : DTGs} (h1 : XG X K e t dt) (h2 : XGs X K es u du)
    (hs : (assignEach (e :: es) X.env).map (·.2) = assign e X.env :: (assignEach es X.env).map (·.2) := by rfl) : XGs X K (e :: es) (gCons t u) (gdCons dt du) := ⟨pgs_cons h1.p h2.p hs, fun d v τ σ h H Q Q0 r rs hr bw w => by
  cases d with
  | nil => exact w.elim
  | cons d ds =>
    obtain ⟨x, xs, e1, r1, r2⟩ := rvs_cons r
    exact ⟨x, xs, e1, h1.l d x τ σ h H _ _ r1 rs hr (fun τ1 σ1 h1' H1 x1 rs1 hr1 w1 => h2.l ds xs τ1 σ1 h1' H1 Q Q0 (RVs.mono x1 _ _ r2) rs1 hr1 (bw.mono x1) w1) w⟩⟩
theorem xg_tup {es : List Expr} {k : Nat} {t : TGs} {dt : DTGs} {n : Nat} (hc : X.calm = true) (h : XGs X K es t dt)
    (hn : (assignEach es X.env).length = n := by rfl) (hst : (assignEach es X.env).findIdx? (·.1) = none := by rfl) (hK : X.K = K := by rfl) : XG X K (.Tuple es k pos) (gTup K n t) (gdTup n dt) := ⟨by subst hK; exact pg_tup hc h.p hn hst, fun d v τ σ h0 H Q Q0 r rs hr bw w => by
  cases d with
  | tup ds =>
    obtain ⟨a, vs, e1, s, q⟩ := rv_tup r
    exact ⟨a, vs, e1, .inl (.inl s), by rw [← q.length]; exact w.1, h.l ds vs τ σ h0 H Q Q0 q rs hr bw w.2⟩
  | ktp ds =>
    obtain ⟨a, vs, e1, s, q⟩ := rv_ktp r
    exact ⟨a, vs, e1, s.t, by rw [← q.length]; exact w.1, h.l ds vs τ σ h0 H Q Q0 q rs hr bw w.2⟩
  | _ => exact w.elim⟩
def rSetU : TSet := fun o i v H Q => rSetL o i v H Q ∨ ∃ a H', o = .ref a ∧ DPut H a i v H' ∧ Q H'
theorem set_all (hu : X.A.units + 1 < cLine) : PSet X rSetU := by
  intro pins s σ H o i v ov iv u Q I ro ri rv h
  rcases h with h | ⟨a, H', rfl, g, q⟩
  · exact set_list pins s σ H o i v ov iv u Q I ro ri rv h
  · cases ro
    exact d_setItem hu I g ri rv fun s' I' => ⟨H', I', q⟩
theorem set_link {o i d : D} {ov iv v : V} {h : DH} {H : Hp} {Q : DH → Prop} {Q0 : Hp → Prop} (ro : RV K H o ov) (ri : RV K H i iv) (rv : RV K H d v) (hr : HR K H h) (bw : ∀ h' H', TX K H H' → HR K H' h' → Q h' → Q0 H') (w : dSet o i d h Q) : rSetU ov iv v H Q0 := by
  rw [dSet_eq] at w; unfold dSet0 at w
  cases o with
  | loc a =>
    have e1 := rv_loc ro
    have w : (match setO (h a) i d with | some u => Q (hupd h a u) | none => False) := w
    cases z : setO (h a) i d with
    | none => rw [z] at w; exact w.elim
    | some u =>
      rw [z] at w
      cases ha : h a with
      | none => rw [ha] at z; cases z
      | some ob =>
        rw [ha] at z
        cases ob with
        | lst xs =>
          obtain ⟨vs, s, q⟩ := hr _ _ ha
          cases i with
          | int k =>
            obtain ⟨j, z1, z2⟩ := Option.map_eq_some_iff.mp (show (ixN xs.length k).map (fun j => DO.lst (xs.set j d)) = some u from z)
            subst z2
            have x := tx_lst (K := K) (o := .lst (vs.set j v)) s
            exact .inl ⟨a, vs, k, j, e1, rv_int ri, s, by rw [← q.length]; exact z1, bw _ _ x (hr.put x (ro_lst (ds := xs.set j d) x (RVs.set rv j q))) w⟩
          | _ => cases z
        | dK kvs =>
          obtain ⟨us, s, q⟩ := hr _ _ ha
          have z : (if kvs.length < sizeLine then (keyD i).map fun k => DO.dK (putD kvs k d) else none) = some u := z
          by_cases hl : kvs.length < sizeLine
          · rw [if_pos hl] at z
            obtain ⟨k, z1, z2⟩ := Option.map_eq_some_iff.mp z
            subst z2
            have x := tx_dK (K := K) (o := .dK (putK us k v)) s
            refine .inr ⟨a, _, e1, ?_, bw _ _ x (hr.put x (ro_dK (rkv_put (q.mono x) k (RV.mono x _ _ rv)))) w⟩
            rw [keyD_v z1 ri]
            exact DPut.k s (by rw [← rkv_length q]; exact hl)
          · rw [if_neg hl] at z; cases z
        | dT kvs =>
          obtain ⟨us, s, q⟩ := hr _ _ ha
          cases i with
          | tup ks =>
            have z : (if kvs.length < sizeLine then (keysD ks).map fun k => DO.dT (putD kvs k d) else none) = some u := z
            by_cases hl : kvs.length < sizeLine
            · rw [if_pos hl] at z
              obtain ⟨k, z1, z2⟩ := Option.map_eq_some_iff.mp z
              subst z2
              obtain ⟨b, bs, eb, sb, qb⟩ := rv_tup ri
              have x := tx_dT (K := K) (o := .dT (putK us k v)) s
              refine .inr ⟨a, _, e1, ?_, bw _ _ x (hr.put x (ro_dT (rkv_put (q.mono x) k (RV.mono x _ _ rv)))) w⟩
              rw [eb]
              exact DPut.t s (by rw [sb, keysD_v z1 qb]) (by rw [← rkv_length q]; exact hl)
            · rw [if_neg hl] at z; cases z
          | _ => cases z
        | _ => cases z
  | _ => exact w.elim
theorem xg_sub {o i : Expr} {to ti : TE} {do' di : DE} (hu : X.A.units + 1 < cLine) (ho : XE X K o to do') (hi : XE X K i ti di)
    (ha : ∀ v, assign (.Subscript o i pos) X.env v = (do
      let ov ← holding [v] (eval o X.env)
      let iv ← holding [v, ov] (eval i X.env)
      standAt pos
      holding [v, ov, iv] (setItem ov iv v)
      release [v, ov, iv] []) := by intro _; rfl) : XG X K (.Subscript o i pos) (gSub to ti rSetU) (gdSub do' di) := ⟨pg_sub ho.p hi.p (set_all hu) ha, fun d v τ σ h H Q Q0 r rs hr bw w =>
  ho.l τ σ h H _ _ rs hr (fun od h1 ov H1 x1 r1 hr1 w1 => hi.l τ σ h1 H1 _ _ (rs.mono x1) hr1 (fun idd h2 iv H2 x2 r2 hr2 w2 =>
    set_link (RV.mono x2 _ _ r1) r2 (RV.mono (x1.trans x2) _ _ r) hr2 (fun h3 H3 x3 hr3 w3 => bw _ _ h3 H3 ((x1.trans x2).trans x3) (rs.mono ((x1.trans x2).trans x3)) hr3 w3) w2) w1) w⟩
end
end DL

set_option Elab.async false
set_option linter.all false
set_option maxRecDepth 100000
/-! DL5: statements, what is walked, loops, comprehensions. -/
namespace DL
open PySem PySem.Spec PyProof.Rows L2

/-! ### statements -/
def dNext : DS := fun D τ h => D.nx τ h
def dSeq (t u : DS) : DS := fun D τ h => t { D with nx := u D } τ h
def dRet (t : DE) : DS := fun D τ h => t τ h D.rt
def dRetN : DS := fun D _ h => D.rt .non h
def dDrop (t : DE) : DS := fun D τ h => t τ h fun _ h1 => D.nx τ h1
def dIfS (c : DT) (t u : DS) : DS := fun D τ h => c τ h fun b h1 => kIte b (t D τ h1) (u D τ h1)
def dBreak : DS := fun D τ h => D.bk τ h
def dCont : DS := fun D τ h => D.ct τ h
def dAsg (t : DE) (g : DTG) : DS := fun D τ h => t τ h fun x h1 => g x τ h1 D.nx
def dPar (i j : Nat) (a : DA) : DS := fun D τ h => a τ h fun ds h1 => match ds with
  | [v, w] => D.nx ((τ.set i (some v)).set j (some w)) h1
  | _ => False
def dNever : DS := fun _ _ _ => False
section
variable {X : Cx} {K : PySem.W.Frag} {st : Stmt} {rest : List Stmt} {t t' : TS} {d d' : DS} {e : Expr} {te : TE} {de : DE} {pos : Pos}
theorem BwS.g {K : PySem.W.Frag} {H : Hp} {D : DEnds} {D0 : Ends} (b : BwS K H D D0) : BwG K H D.nx D0.nx := fun a b' c d t r1 r2 w => b.nx a b' c d t r1 r2 w
theorem xss_nil : XSs X K [] tNext dNext := ⟨pss_nil, fun τ σ h H D D0 rs hr bw w => bw.nx τ σ h H TX.refl rs hr w⟩
theorem xss_cons (h1 : XS X K st t d) (h2 : XSs X K rest t' d') : XSs X K (st :: rest) (tSeq t t') (dSeq d d') := ⟨pss_cons h1.p h2.p, fun τ σ h H D D0 rs hr bw w =>
  h1.l τ σ h H { D with nx := d' D } { D0 with nx := t' D0 } rs hr ⟨fun τ' σ' h' H' x rs' hr' w' => h2.l τ' σ' h' H' D D0 rs' hr' (bw.mono x) w', bw.rt, bw.bk, bw.ct⟩ w⟩
theorem xss_one (h1 : XS X K st t d) : XSs X K [st] t d := ⟨pss_one h1.p, h1.l⟩
theorem xs_pass : XS X K (.Pass pos) tNext dNext := ⟨ps_pass, fun τ σ h H D D0 rs hr bw w => bw.nx τ σ h H TX.refl rs hr w⟩
theorem xs_break : XS X K (.Break pos) tBreak dBreak := ⟨ps_break, fun τ σ h H D D0 rs hr bw w => bw.bk τ σ h H TX.refl rs hr w⟩
theorem xs_continue : XS X K (.Continue pos) tCont dCont := ⟨ps_continue, fun τ σ h H D D0 rs hr bw w => bw.ct τ σ h H TX.refl rs hr w⟩
theorem xs_expr (he : XE X K e te de) (hs : swapsWith e none pos.line X.env = pure false := by rfl) : XS X K (.Expr e pos) (tDrop te) (dDrop de) := ⟨ps_expr he.p hs, fun τ σ h H D D0 rs hr bw w =>
  he.l τ σ h H _ _ rs hr (fun x h1 v H1 x1 r1 hr1 w1 => bw.nx τ σ h1 H1 x1 (rs.mono x1) hr1 w1) w⟩
theorem xs_ret (he : XE X K e te de) : XS X K (.Return (some e) pos) (tRet te) (dRet de) := ⟨ps_ret he.p, fun τ σ h H D D0 rs hr bw w => he.l τ σ h H _ _ rs hr bw.rt w⟩
theorem xs_retN : XS X K (.Return none pos) tRetN dRetN := ⟨ps_retN, fun τ σ h H D D0 rs hr bw w => bw.rt _ h _ H TX.refl rv_non' hr w⟩
theorem xs_if {c : Expr} {a b : List Stmt} {tc : TT} {dc : DT} (hc : XT X K c tc dc) (ha : XSs X K a t d) (hb : XSs X K b t' d') : XS X K (.If c a b pos) (tIfS tc t t') (dIfS dc d d') := ⟨ps_if hc.p ha.p hb.p, fun τ σ h H D D0 rs hr bw w =>
  hc.l τ σ h H _ _ rs hr (fun k h1 H1 x1 hr1 w1 => by
    cases k with
    | true => have w1 := kt w1; exact ha.l τ σ h1 H1 D D0 (rs.mono x1) hr1 (bw.mono x1) w1
    | false => have w1 := kf w1; exact hb.l τ σ h1 H1 D D0 (rs.mono x1) hr1 (bw.mono x1) w1) w⟩
theorem ls_asg {K : PySem.W.Frag} {g0 : TG} {g : DTG} (le : LE K te de) (lg : LG K g0 g) : LS K (tAsg te g0) (dAsg de g) := fun τ σ h H D D0 rs hr bw w =>
  le τ σ h H _ _ rs hr (fun x h1 v H1 x1 r1 hr1 w1 => lg x v τ σ h1 H1 _ _ r1 (rs.mono x1) hr1 (bw.g.mono x1) w1) w
theorem xs_asg {tg : Expr} {g0 : TG} {g : DTG} (he : XE X K e te de) (hg : XG X K tg g0 g) (hs : swapsWithSole [tg] e pos.line X.env = pure false := by rfl) (hw : swappedStores [tg] e X.env = pure none := by rfl)
    (h1 : (assignEach [tg] X.env).map (·.2) = [assign tg X.env] := by rfl) : XS X K (.Assign [tg] e pos) (tAsg te g0) (dAsg de g) := ⟨ps_asg he.p hg.p hs hw h1, ls_asg he.l hg.l⟩
theorem lg_name {K : PySem.W.Frag} (i : Nat) : LG K (gName i) (gdName i) := fun d v τ σ h H Q Q0 r rs hr bw w => bw _ _ h H TX.refl (rs.set i r) hr w
theorem xs_set {i : Nat} {x : Str} {pos' : Pos} (hN : X.N.Nodup) (he : XE X K e te de) (hi : X.N[i]? = some x := by rfl) (hx : Loc X.env.scope x := by first | exact Or.inl rfl | exact Or.inr rfl) (hs : swapsWith e (some (.Name x pos')) pos.line X.env = pure false := by rfl) (hf : X.fn x = true ∨ X.env.scope.names.lookup x = some .local := by first | exact .inl rfl | exact .inr rfl) :
    XS X K (.Assign [.Name x pos'] e pos) (tAsg te (gName i)) (dAsg de (gdName i)) := ⟨ps_set hN hi hx he.p hs hf, ls_asg he.l (lg_name i)⟩
theorem xs_par {i j : Nat} {x y : Str} {a b : Expr} {ta : TA} {da : DA} {px py pt : Pos} {kt k2 pt2} (hc : X.calm = true) (hN : X.N.Nodup) (ha : XA X K [a, b] ta da) (hij : i ≠ j) (hi : X.N[i]? = some x := by rfl) (hj : X.N[j]? = some y := by rfl)
    (hx : X.env.scope.names.lookup x = some .local := by rfl) (hy : X.env.scope.names.lookup y = some .local := by rfl)
    (hw : swappedStores [.Tuple [.Name x px, .Name y py] kt pt] (.Tuple [a, b] k2 pt2) X.env = pure (some [x, y]) := by rfl)
    (hs : swapsWithSole [.Tuple [.Name x px, .Name y py] kt pt] (.Tuple [a, b] k2 pt2) pos.line X.env = pure false := by rfl) :
    XS X K (.Assign [.Tuple [.Name x px, .Name y py] kt pt] (.Tuple [a, b] k2 pt2) pos) (tPar i j ta) (dPar i j da) := ⟨ps_par hc hN hi hj hij hx hy ha.p hw hs, fun τ σ h H D D0 rs hr bw w =>
  ha.l τ σ h H _ _ rs hr (fun ds h1 vs H1 x1 r1 hr1 w1 => by
    match ds, w1, r1 with
    | [v, w0], w1, r1 =>
      obtain ⟨u1, us1, e1, q1, r2⟩ := rvs_cons r1
      obtain ⟨u2, us2, e2, q2, r3⟩ := rvs_cons r2
      have e3 := rvs_nil r3
      subst e3 e2 e1
      exact ⟨u1, u2, rfl, bw.nx _ _ h1 H1 x1 (((rs.mono x1).set i q1).set j q2) hr1 w1⟩) w⟩
/-- name op= e, by the operator's own rule -/
def dAug (i : Nat) (t : DE) (q : DR2) : DS := fun D τ h => match ld τ i with
  | some x => t τ h fun y h1 => q x y h1 fun z h2 => D.nx (τ.set i (some z)) h2
  | none => False
theorem xs_aug {i : Nat} {x : Str} {op : Operator} {r : R2} {q : DR2} {pos' : Pos} (hN : X.N.Nodup) (o : OpR X (inplaceOp op) r ∧ LR2 K r q) (he : XE X K e te de) (hi : X.N[i]? = some x := by rfl) (hx : Loc X.env.scope x := by first | exact Or.inl rfl | exact Or.inr rfl) (hf : X.fn x = true ∨ X.env.scope.names.lookup x = some .local := by first | exact .inl rfl | exact .inr rfl) :
    XS X K (.AugAssign (.Name x pos') op e pos) (tAug i te r) (dAug i de q) := ⟨ps_aug hN hi hx he.p (fun pins s σ H x y v u Q I r1 r2 w => o.1 pins s σ H x y v u Q I r1 r2 w) hf, fun τ σ h H D D0 rs hr bw w => by
  unfold dAug at w
  cases z : ld τ i with
  | none => rw [z] at w; exact w.elim
  | some d0 =>
    rw [z] at w
    obtain ⟨v0, s0, r0⟩ := rs.2 i d0 (ld_get z)
    exact ⟨v0, s0, he.l τ σ h H _ _ rs hr (fun y h1 v H1 x1 r1 hr1 w1 => o.2 d0 y v0 v h1 H1 _ _ (RV.mono x1 _ _ r0) r1 hr1 (fun z h2 zv H2 x2 r2 hr2 w2 => bw.nx _ _ h2 H2 (x1.trans x2) ((rs.mono (x1.trans x2)).set i r2) hr2 w2) w1) w⟩⟩
end

/-! ### what is walked -/
abbrev DI := DSt → DH → (List D → (DH → Prop) → DH → Prop) → Prop
def Fol (K : PySem.W.Frag) (H0 : Hp) (J : It) (items : List D) (G : DH → Prop) : Prop := ∀ (i : Nat) (h : DH) (H : Hp), TX K H0 H → HR K H h → G h →
  (items.length ≤ i → J.stop i H) ∧ ∀ d, items[i]? = some d → J.go i H ∧ ∀ x H', J.yld i H x H' → TX K H H' ∧ HR K H' h ∧ RV K H' d x
def LI (K : PySem.W.Frag) (w0 : TI) (di : DI) : Prop := ∀ τ σ h H (R : List D → (DH → Prop) → DH → Prop) (R0 : It → Hp → Prop), RS K H τ σ → HR K H h →
  (∀ items G h' H' J, TX K H H' → HR K H' h' → R items G h' → Fol K H' J items G → R0 J H') → di τ h R → w0 σ H R0
structure XI (X : Cx) (K : PySem.W.Frag) (tg e : Expr) (w0 : TI) (di : DI) : Prop where
  p : PI X tg e w0
  l : LI K w0 di
/-- a list or a tuple -/
def iSeq (K : PySem.W.Frag) (tl : TE) : TI := fun σ H R => tl σ H fun x H1 => ∃ a, x = .ref a ∧ (((∃ xs, SqL K H1 a xs) ∧ R (Itl K a) H1) ∨ ((∃ xs, SqT K H1 a xs) ∧ R (Itt K a) H1))
def diSeq (t : DE) : DI := fun τ h R => t τ h fun x h1 => match x with
  | .tup xs => R xs (fun _ => True) h1
  | .ktp xs => R xs (fun _ => True) h1
  | .fls xs => R xs (fun _ => True) h1
  | .loc a => (match lstO (h1 a) with
    | some xs => R xs (fun h => h a = some (.lst xs)) h1
    | none => False)
  | _ => False
section
variable {X : Cx} {K : PySem.W.Frag} {tg : Expr}
theorem pi_seq {l : Expr} {tl : TE} (hl : PE X l tl) : PI X tg l (iSeq X.K tl) := by
  refine ⟨fun pins s σ H R I h => ?_⟩
  refine thn (hl.run pins s σ H _ I h) fun v s1 ⟨x, H1, I1, r1, a, e, q⟩ => ?_
  subst e
  cases r1
  have fresh : ∀ b ∈ [s1.heap.objs.size], FpOk X pins H1 b := fun b hb => by
    cases List.mem_singleton.mp hb
    exact I1.fpOk (Nat.le_refl _) (I1.hok.fresh (Nat.le_refl _))
  rcases q with ⟨⟨xs, hq⟩, q⟩ | ⟨⟨xs, hq⟩, q⟩
  · obtain ⟨its, rv, p, hz⟩ := I1.list hq
    exact wpAny_pyIter_list p.isList ⟨s1.heap.objs.size, [s1.heap.objs.size], _, _, H1, rfl, I1.kept (t' := s1.toks) (fun b o e => Heap.get?_push_of_some _ e), turn_list a _, ⟨_, Heap.get?_push_size _ rfl, rfl, rfl⟩, fresh, q⟩
  · obtain ⟨its, rv, p, hz⟩ := I1.tuple hq
    exact wpAny_pyIter_tuple (show s1.heap.IsTuple a its.toArray from p) ⟨s1.heap.objs.size, [s1.heap.objs.size], _, _, H1, rfl, I1.kept (t' := s1.toks) (fun b o e => Heap.get?_push_of_some _ e), turn_tuple a _, ⟨_, Heap.get?_push_size _ rfl, rfl, rfl⟩, fresh, q⟩
variable {K : PySem.W.Frag}
theorem fol_l {H0 : Hp} {a : Addr} {items : List D} {G : DH → Prop} (q : ∀ h H, TX K H0 H → HR K H h → G h → ∃ vs, SqL K H a vs ∧ RVs K H items vs) : Fol K H0 (Itl K a) items G := fun i h H x hr g => by
  obtain ⟨vs, s, r⟩ := q h H x hr g
  refine ⟨fun hi => ⟨vs, s, by rw [← r.length]; exact hi⟩, fun d hd => ?_⟩
  obtain ⟨v, hv, rv⟩ := r.get hd
  refine ⟨⟨vs, v, s, hv⟩, fun y H' ⟨e, hy⟩ => ?_⟩
  subst e
  have e2 := hy vs s
  rw [hv] at e2
  cases e2
  exact ⟨TX.refl, hr, rv⟩
theorem fol_t {H0 : Hp} {a : Addr} {items : List D} {G : DH → Prop} (q : ∀ h H, TX K H0 H → HR K H h → G h → ∃ vs, SqT K H a vs ∧ RVs K H items vs) : Fol K H0 (Itt K a) items G := fun i h H x hr g => by
  obtain ⟨vs, s, r⟩ := q h H x hr g
  refine ⟨fun hi => ⟨vs, s, by rw [← r.length]; exact hi⟩, fun d hd => ?_⟩
  obtain ⟨v, hv, rv⟩ := r.get hd
  refine ⟨⟨vs, v, s, hv⟩, fun y H' ⟨e, hy⟩ => ?_⟩
  subst e
  have e2 := hy vs s
  rw [hv] at e2
  cases e2
  exact ⟨TX.refl, hr, rv⟩
theorem xi_seq {e : Expr} {te : TE} {de : DE} (he : XE X K e te de) (hK : X.K = K := by rfl) : XI X K tg e (iSeq K te) (diSeq de) := ⟨by subst hK; exact pi_seq he.p, fun τ σ h H R R0 rs hr bw w => he.l τ σ h H _ _ rs hr (fun d h1 v H1 x1 r1 hr1 w1 => by
  cases d with
  | tup ds =>
    obtain ⟨a, vs, e1, s, q⟩ := rv_tup r1
    exact ⟨a, e1, .inr ⟨⟨vs, .inl (.inl s)⟩, bw ds _ h1 H1 _ x1 hr1 w1 (fol_t fun h H x _ _ => ⟨vs, .inl (.inl (x.1 _ _ s)), RVs.mono x _ _ q⟩)⟩⟩
  | ktp ds =>
    obtain ⟨a, vs, e1, s, q⟩ := rv_ktp r1
    exact ⟨a, e1, .inr ⟨⟨vs, s.t⟩, bw ds _ h1 H1 _ x1 hr1 w1 (fol_t fun h H x _ _ => ⟨vs, s.t, RVs.mono x _ _ q⟩)⟩⟩
  | fls ds =>
    obtain ⟨a, vs, e1, s, q⟩ := rv_fls r1
    exact ⟨a, e1, .inl ⟨⟨vs, s.l⟩, bw ds _ h1 H1 _ x1 hr1 w1 (fol_l fun h H x _ _ => ⟨vs, (x.2 _ _ s).l, RVs.mono x _ _ q⟩)⟩⟩
  | loc a =>
    have w1 : (match lstO (h1 a) with | some xs => R xs (fun h => h a = some (.lst xs)) h1 | none => False) := w1
    cases z : lstO (h1 a) with
    | none => rw [z] at w1; exact w1.elim
    | some xs =>
      rw [z] at w1
      obtain ⟨vs, s, q⟩ := hr1 _ _ (lstO_of z)
      refine ⟨a, rv_loc r1, .inl ⟨⟨vs, .inl (.inl s)⟩, bw xs _ h1 H1 _ x1 hr1 w1 (fol_l fun h H x hr g => ?_)⟩⟩
      obtain ⟨vs', s', q'⟩ := hr _ _ g
      exact ⟨vs', .inl (.inl s'), q'⟩
  | _ => exact w1.elim) w⟩
def rangeD (lo : Int) (n : Nat) : List D := (List.range n).map fun (i : Nat) => D.int (lo + (i : Int))
theorem fol_r {H0 : Hp} {lo : Int} {n : Nat} {G : DH → Prop} : Fol K H0 (Itr lo n) (rangeD lo n) G := fun i h H x hr g => by
  unfold rangeD
  refine ⟨fun hi => (by simpa using hi : n ≤ i), fun d hd => ?_⟩
  have hd' := hd
  rw [List.getElem?_map] at hd'
  cases z : (List.range n)[i]? with
  | none => rw [z] at hd'; cases hd'
  | some j =>
    rw [z] at hd'
    have e1 : D.int (lo + (j : Int)) = d := Option.some.inj hd'
    have hj : i < n ∧ j = i := by
      obtain ⟨hl, e⟩ := List.getElem?_eq_some_iff.mp z
      rw [List.length_range] at hl
      exact ⟨hl, by rw [← e, List.getElem_range]⟩
    refine ⟨hj.1, fun y H' ⟨e, hy⟩ => ?_⟩
    subst e hy
    rw [← e1, hj.2]
    exact ⟨TX.refl, hr, rv_int'⟩
def diRng1 (a : DA) : DI := fun τ h R => a τ h fun ds h1 => match ds with
  | [.int j] => (-(2 ^ 62) ≤ j ∧ j < 2 ^ 62) ∧ R (rangeD 0 j.toNat) (fun _ => True) h1
  | _ => False
def diRng2 (a : DA) : DI := fun τ h R => a τ h fun ds h1 => match ds with
  | [.int i, .int j] => (-(2 ^ 62) ≤ i ∧ i < 2 ^ 62 ∧ -(2 ^ 62) ≤ j ∧ j < 2 ^ 62) ∧ R (rangeD i (j - i).toNat) (fun _ => True) h1
  | _ => False
theorem xi_rng1 {a : Expr} {ta : TA} {da : DA} {p pos : Pos} (hm : X.mg "range" = none) (ha : XA X K [a] ta da) (hg : Gl X "range" := by rfl) (hs : starEach [a] X.env = [(false, eval a X.env)] := by rfl) : XI X K tg (.Call (.Name "range" p) [a] [] pos) (iRng1 ta) (diRng1 da) :=
  ⟨pi_range1 hg hm ha.p hs, fun τ σ h H R R0 rs hr bw w => ha.l τ σ h H _ _ rs hr (fun ds h1 vs H1 x1 r1 hr1 w1 => by
    match ds, w1, r1 with
    | [.int j], w1, r1 =>
      obtain ⟨u1, us1, e1, q1, r2⟩ := rvs_cons r1
      have e2 := rvs_nil r2
      have e3 := rv_int q1
      subst e3 e2 e1
      exact ⟨j, rfl, w1.1.1, w1.1.2, bw _ _ h1 H1 _ x1 hr1 w1.2 fol_r⟩) w⟩
theorem xi_rng2 {a b : Expr} {ta : TA} {da : DA} {p pos : Pos} (hm : X.mg "range" = none) (ha : XA X K [a, b] ta da) (hg : Gl X "range" := by rfl) (hs : starEach [a, b] X.env = [(false, eval a X.env), (false, eval b X.env)] := by rfl) (hs2 : starEach [b] X.env = [(false, eval b X.env)] := by rfl) : XI X K tg (.Call (.Name "range" p) [a, b] [] pos) (iRng2 ta) (diRng2 da) :=
  ⟨pi_range2 hg hm ha.p hs hs2, fun τ σ h H R R0 rs hr bw w => ha.l τ σ h H _ _ rs hr (fun ds h1 vs H1 x1 r1 hr1 w1 => by
    match ds, w1, r1 with
    | [.int i, .int j], w1, r1 =>
      obtain ⟨u1, us1, e1, q1, r2⟩ := rvs_cons r1
      obtain ⟨u2, us2, e2, q2, r3⟩ := rvs_cons r2
      have e4 := rvs_nil r3
      have e3 := rv_int q1
      have e5 := rv_int q2
      subst e3 e5 e4 e2 e1
      exact ⟨i, j, rfl, w1.1, bw _ _ h1 H1 _ x1 hr1 w1.2 fol_r⟩) w⟩
end

/-! ### for -/
def dLoop (G : DH → Prop) (g : DTG) (tb : DS) (N : DEnds) : List D → DSt → DH → Prop
  | [], τ, h => G h ∧ N.nx τ h
  | d :: ds, τ, h => G h ∧ g d τ h fun τ1 h1 => tb { N with nx := dLoop G g tb N ds, ct := dLoop G g tb N ds, bk := N.nx } τ1 h1
def dFor (di : DI) (g : DTG) (tb : DS) : DS := fun D τ h => di τ h fun items G h1 => dLoop G g tb D items τ h1
section
variable {X : Cx} {K : PySem.W.Frag}
theorem loop_G {G : DH → Prop} {g : DTG} {tb : DS} {N : DEnds} {items : List D} {τ : DSt} {h : DH} (w : dLoop G g tb N items τ h) : G h := by
  cases items with
  | nil => exact w.1
  | cons d ds => exact w.1
theorem ls_for {w0 : TI} {di : DI} {g0 : TG} {g : DTG} {t0 : TS} {t : DS} (li : LI K w0 di) (lg : LG K g0 g) (lb : LS K t0 t) : LS K (tFor w0 g0 t0) (dFor di g t) := fun τ σ h H D D0 rs hr bw w =>
  li τ σ h H _ _ rs hr (fun items G h1 H1 J x1 hr1 w1 fol => by
    refine ⟨fun i m σ' H' => ∃ τ' h', m = items.length - i ∧ i ≤ items.length ∧ TX K H1 H' ∧ RS K H' τ' σ' ∧ HR K H' h' ∧ dLoop G g t D (items.drop i) τ' h', ⟨items.length, τ, h1, rfl, Nat.zero_le _, TX.refl, rs.mono x1, hr1, by rw [List.drop_zero]; exact w1⟩, ?_⟩
    rintro i m σ' H' ⟨τ', h', rfl, hi, x2, rs2, hr2, w2⟩
    obtain ⟨f1, f2⟩ := fol i h' H' x2 hr2 (loop_G w2)
    by_cases hlt : i < items.length
    · obtain ⟨d, hd⟩ : ∃ d, items[i]? = some d := ⟨items[i], List.getElem?_eq_getElem hlt⟩
      obtain ⟨go, f3⟩ := f2 d hd
      have hdrop : items.drop i = d :: items.drop (i + 1) := by
        rw [List.drop_eq_getElem_cons hlt]
        rw [List.getElem?_eq_getElem hlt] at hd
        rw [Option.some.inj hd]
      rw [hdrop] at w2
      refine .inr ⟨go, fun σ3 H3 => ∃ τ3 h3, TX K H1 H3 ∧ RS K H3 τ3 σ3 ∧ HR K H3 h3 ∧ dLoop G g t D (items.drop (i + 1)) τ3 h3, fun σ3 H3 ⟨τ3, h3, a1, a2, a3, a4⟩ => ⟨items.length - (i + 1), by omega, τ3, h3, rfl, hlt, a1, a2, a3, a4⟩, fun x H3 y3 => ?_⟩
      obtain ⟨x3, hr3, r3⟩ := f3 x H3 y3
      have bwx := bw.mono (x1.trans (x2.trans x3))
      refine lg d x τ' σ' h' H3 _ _ r3 (rs2.mono x3) hr3 (fun τ4 σ4 h4 H4 x4 rs4 hr4 w4 => ?_) w2.2
      refine lb τ4 σ4 h4 H4 { D with nx := dLoop G g t D (items.drop (i + 1)), ct := dLoop G g t D (items.drop (i + 1)), bk := D.nx } _ rs4 hr4 ⟨fun a b c e t1 q1 q2 q3 => ⟨a, c, (x2.trans x3).trans (x4.trans t1), q1, q2, q3⟩, (bwx.mono x4).rt, fun a b c e t1 q1 q2 q3 => (bwx.mono x4).nx a b c e t1 q1 q2 q3, fun a b c e t1 q1 q2 q3 => ⟨a, c, (x2.trans x3).trans (x4.trans t1), q1, q2, q3⟩⟩ w4
    · have e : i = items.length := by omega
      subst e
      rw [List.drop_length] at w2
      exact .inl ⟨f1 (Nat.le_refl _), bw.nx τ' σ' h' H' (x1.trans x2) rs2 hr2 w2.2⟩) w
theorem xs_for {tg iter : Expr} {body : List Stmt} {w0 : TI} {di : DI} {g0 : TG} {g : DTG} {t0 : TS} {t : DS} {pos : Pos} (hp : PassesOwn (model X.prog X.w) X.A X.env X.xe) (hc : X.calm = true) (hi : XI X K tg iter w0 di) (hg : XG X K tg g0 g) (hb : XSs X K body t0 t)
    (hs : ∀ x, foldedSetIterable iter X.env x = pure x := by intro _; rfl) : XS X K (.For tg iter body [] pos) (tFor w0 g0 t0) (dFor di g t) := ⟨ps_for hp hc hi.p hg.p hb.p hs, ls_for hi.l hg.l hb.l⟩

/-! ### while -/
def dWh (c : DT) (t : DS) (D : DEnds) : Nat → DSt → DH → Prop
  | 0, _, _ => False
  | n + 1, τ, h => c τ h fun b h1 => kIte b (t { D with nx := dWh c t D n, ct := dWh c t D n, bk := D.nx } τ h1) (D.nx τ h1)
def dWhile (c : DT) (t : DS) : DS := fun D τ h => ∃ n, dWh c t D n τ h
theorem ls_while {c0 : TT} {c : DT} {t0 : TS} {t : DS} (lc : LT K c0 c) (lb : LS K t0 t) : LS K (tWhile c0 t0) (dWhile c t) := fun τ σ h H D D0 rs hr bw ⟨n, w⟩ => by
  refine ⟨fun m σ' H' => ∃ τ' h', TX K H H' ∧ RS K H' τ' σ' ∧ HR K H' h' ∧ dWh c t D m τ' h', ⟨n, τ, h, TX.refl, rs, hr, w⟩, ?_⟩
  rintro m σ' H' ⟨τ', h', x1, rs1, hr1, w1⟩
  cases m with
  | zero => exact w1.elim
  | succ m =>
    refine lc τ' σ' h' H' _ _ rs1 hr1 (fun b h2 H2 x2 hr2 w2 => ?_) w1
    cases b with
    | true =>
      have w2 := kt w2
      refine ⟨fun σ3 H3 => ∃ τ3 h3, TX K H H3 ∧ RS K H3 τ3 σ3 ∧ HR K H3 h3 ∧ dWh c t D m τ3 h3, fun σ3 H3 q => ⟨m, Nat.lt_succ_self _, q⟩, ?_⟩
      have bwx := bw.mono (x1.trans x2)
      exact lb τ' σ' h2 H2 { D with nx := dWh c t D m, ct := dWh c t D m, bk := D.nx } _ (rs1.mono x2) hr2 ⟨fun a b c e t1 q1 q2 q3 => ⟨a, c, (x1.trans x2).trans t1, q1, q2, q3⟩, bwx.rt, fun a b c e t1 q1 q2 q3 => bwx.nx a b c e t1 q1 q2 q3, fun a b c e t1 q1 q2 q3 => ⟨a, c, (x1.trans x2).trans t1, q1, q2, q3⟩⟩ w2
    | false => have w2 := kf w2; exact bw.nx τ' σ' h2 H2 (x1.trans x2) (rs1.mono x2) hr2 w2
theorem xs_while {c : Expr} {body : List Stmt} {c0 : TT} {dc : DT} {t0 : TS} {t : DS} {pos : Pos} (hp : PassesOwn (model X.prog X.w) X.A X.env X.xe) (hc : XT X K c c0 dc) (hb : XSs X K body t0 t) : XS X K (.While c body [] pos) (tWhile c0 t0) (dWhile dc t) := ⟨ps_while hp hc.p hb.p, ls_while hc.l hb.l⟩
end

/-! ### comprehensions -/
def wipeD (τ : DSt) : List Nat → DSt
  | [] => τ
  | v :: vs => (wipeD τ vs).set v none
theorem rs_wipe {K : PySem.W.Frag} {H : Hp} {τ : DSt} {σ : L2.St} (r : RS K H τ σ) : ∀ vs, RS K H (wipeD τ vs) (wipe σ vs)
  | [] => r
  | v :: vs => (rs_wipe r vs).unset v
theorem wipe_get (σ : L2.St) (i : Nat) : ∀ vs : List Nat, (wipe σ vs)[i]? = if i ∈ vs then (σ[i]?).map fun _ => none else σ[i]?
  | [] => by simp [wipe]
  | v :: vs => by
    unfold wipe
    by_cases e : v = i
    · subst e
      rw [List.getElem?_set_self', wipe_get σ v vs]
      by_cases q : v ∈ vs <;> simp [q] <;> cases σ[v]? <;> rfl
    · rw [List.getElem?_set_ne e, wipe_get σ i vs]
      have e' : ¬ i = v := fun z => e z.symm
      simp [e']
theorem wipe_set {σ : L2.St} {i : Nat} {o : Option V} {vs : List Nat} (hi : i ∈ vs) : wipe (σ.set i o) vs = wipe σ vs := by
  refine List.ext_getElem? fun j => ?_
  rw [wipe_get, wipe_get]
  by_cases e : i = j
  · subst e
    rw [if_pos hi, if_pos hi, List.getElem?_set_self']
    cases σ[i]? <;> rfl
  · rw [List.getElem?_set_ne e]
theorem wipe_wipe (σ : L2.St) (vs : List Nat) : wipe (wipe σ vs) vs = wipe σ vs := by
  refine List.ext_getElem? fun j => ?_
  rw [wipe_get, wipe_get]
  by_cases e : j ∈ vs
  · rw [if_pos e, if_pos e]; cases σ[j]? <;> rfl
  · rw [if_neg e, if_neg e]
def Own (vs : List Nat) (g0 : TG) : Prop := ∀ v σ H Q, g0 v σ H Q → g0 v σ H fun σ' H' => wipe σ' vs = wipe σ vs ∧ Q σ' H'
def Owns (vs : List Nat) (g0 : TGs) : Prop := ∀ v σ H Q, g0 v σ H Q → g0 v σ H fun σ' H' => wipe σ' vs = wipe σ vs ∧ Q σ' H'
theorem own_name {vs : List Nat} {i : Nat} (hi : i ∈ vs) : Own vs (gName i) := fun v σ H Q w => ⟨wipe_set hi, w⟩
theorem own_nil {vs : List Nat} : Owns vs gNil := fun v σ H Q w => ⟨w.1, rfl, w.2⟩
theorem own_cons {vs : List Nat} {g : TG} {r : TGs} (h1 : Own vs g) (h2 : Owns vs r) (mono : ∀ v σ H (Q Q' : L2.St → Hp → Prop), (∀ s h, Q s h → Q' s h) → g v σ H Q → g v σ H Q') : Owns vs (gCons g r) := fun v σ H Q ⟨x, xs, e, w⟩ =>
  ⟨x, xs, e, mono _ _ _ _ _ (fun s h ⟨e1, q⟩ => by
    have q2 := h2 _ _ _ _ q
    exact (by
      have : (fun σ' H' => wipe σ' vs = wipe s vs ∧ Q σ' H') = (fun σ' H' => wipe σ' vs = wipe σ vs ∧ Q σ' H') := by rw [e1]
      rw [this] at q2; exact q2)) (h1 _ _ _ _ w)⟩
theorem own_tup {vs : List Nat} {K : PySem.W.Frag} {n : Nat} {r : TGs} (h : Owns vs r) : Own vs (gTup K n r) := fun v σ H Q ⟨a, xs, e, s, l, w⟩ => ⟨a, xs, e, s, l, h _ _ _ _ w⟩
theorem mono_name {i : Nat} : ∀ v σ H (Q Q' : L2.St → Hp → Prop), (∀ s h, Q s h → Q' s h) → gName i v σ H Q → gName i v σ H Q' := fun _ _ _ _ _ k w => k _ _ w

structure XTs (X : Cx) (K : PySem.W.Frag) (cs : List Expr) (t0 : TT) (t : DT) : Prop where
  p : PTs X cs t0
  l : LT K t0 t
def dYes : DT := fun _ h Q => Q true h
theorem xts_nil {X : Cx} {K : PySem.W.Frag} : XTs X K [] tYes dYes := ⟨pts_nil, fun τ σ h H Q Q0 rs hr bw w => bw true h H TX.refl hr w⟩
theorem xts_one {X : Cx} {K : PySem.W.Frag} {c : Expr} {t : TT} {d : DT} (h : XT X K c t d) : XTs X K [c] t d := ⟨pts_one h.p, h.l⟩

def dLcGo (G : DH → Prop) (g : DTG) (tt : DT) (te : DE) (p : Addr) (τ : DSt) (Q : DK) : List D → DH → Prop
  | [], h => G h ∧ Q (.loc p) h
  | d :: ds, h => G h ∧ g d τ h fun τ2 h2 => tt τ2 h2 fun b h3 => kIte b (te τ2 h3 fun y h4 => (match lstO (h4 p) with
      | some acc => acc.length < sizeLine ∧ dLcGo G g tt te p τ Q ds (hupd h4 p (.lst (acc ++ [y])))
      | none => False)) (dLcGo G g tt te p τ Q ds h3)
def dLc (di : DI) (g : DTG) (tt : DT) (te : DE) (vs : List Nat) : DE := fun τ h Q => di τ h fun items G h1 => ∀ p, h1 p = none → dLcGo G g tt te p (wipeD τ vs) Q items (hupd h1 p (.lst []))
section
variable {X : Cx} {K : PySem.W.Frag}
theorem lc_G {G : DH → Prop} {g : DTG} {tt : DT} {te : DE} {p : Addr} {τ : DSt} {Q : DK} {items : List D} {h : DH} (w : dLcGo G g tt te p τ Q items h) : G h := by
  cases items with
  | nil => exact w.1
  | cons d ds => exact w.1
theorem le_lc {w0 : TI} {di : DI} {g0 : TG} {g : DTG} {t0 : TT} {tt : DT} {e0 : TE} {te : DE} {vs : List Nat} (li : LI K w0 di) (lg : LG K g0 g) (own : Own vs g0) (lt : LT K t0 tt) (le : LE K e0 te) : LE K (tLc w0 g0 t0 e0 vs) (dLc di g tt te vs) := fun τ σ h H Q Q0 rs hr bw w =>
  li τ σ h H _ _ rs hr (fun items G h1 H1 J x1 hr1 w1 fol D hD => by
    have xD : TX K H1 (upd H1 D (.lst [])) := tx_new hD
    have w1 := w1 D (hr1.free hD)
    refine ⟨fun i m H' => ∃ h', m = items.length - i ∧ i ≤ items.length ∧ TX K H1 H' ∧ HR K H' h' ∧ dLcGo G g tt te D (wipeD τ vs) Q (items.drop i) h', ⟨items.length, _, rfl, Nat.zero_le _, xD, hr1.put xD (ro_lst xD rvs_nil'), by rw [List.drop_zero]; exact w1⟩, ?_⟩
    rintro i m H' ⟨h', rfl, hi, x2, hr2, w2⟩
    obtain ⟨f1, f2⟩ := fol i h' H' x2 hr2 (lc_G w2)
    by_cases hlt : i < items.length
    · obtain ⟨d, hd⟩ : ∃ d, items[i]? = some d := ⟨items[i], List.getElem?_eq_getElem hlt⟩
      obtain ⟨go, f3⟩ := f2 d hd
      have hdrop : items.drop i = d :: items.drop (i + 1) := by
        rw [List.drop_eq_getElem_cons hlt]
        rw [List.getElem?_eq_getElem hlt] at hd
        rw [Option.some.inj hd]
      rw [hdrop] at w2
      refine .inr ⟨go, fun H3 => ∃ h3, TX K H1 H3 ∧ HR K H3 h3 ∧ dLcGo G g tt te D (wipeD τ vs) Q (items.drop (i + 1)) h3, fun H3 ⟨h3, a1, a2, a3⟩ => ⟨items.length - (i + 1), by omega, h3, rfl, hlt, a1, a2, a3⟩, fun x H3 y3 => ?_⟩
      obtain ⟨x3, hr3, r3⟩ := f3 x H3 y3
      have q := own x (wipe σ vs) H3 _ (lg d x (wipeD τ vs) (wipe σ vs) h' H3 _ (fun σ4 H4 => t0 σ4 H4 fun b H5 => if b = true then e0 σ4 H5 fun y H6 => ∃ acc, H6 D = some (.lst acc) ∧ acc.length < sizeLine ∧ (fun H3 => ∃ h3, TX K H1 H3 ∧ HR K H3 h3 ∧ dLcGo G g tt te D (wipeD τ vs) Q (items.drop (i + 1)) h3) (upd H6 D (.lst (acc ++ [y]))) else (fun H3 => ∃ h3, TX K H1 H3 ∧ HR K H3 h3 ∧ dLcGo G g tt te D (wipeD τ vs) Q (items.drop (i + 1)) h3) H5) r3 ((rs_wipe (rs.mono (x1.trans (x2.trans x3))) vs)) hr3 (fun τ4 σ4 h4 H4 x4 rs4 hr4 w4 => ?_) w2.2)
      · rw [wipe_wipe] at q
        exact q
      · refine lt τ4 σ4 h4 H4 _ _ rs4 hr4 (fun b h5 H5 x5 hr5 w5 => ?_) w4
        cases b with
        | false => have w5 := kf w5; exact ⟨h5, (x2.trans x3).trans (x4.trans x5), hr5, w5⟩
        | true =>
          have w5 := kt w5
          refine le τ4 σ4 h5 H5 _ _ (rs4.mono x5) hr5 (fun y h6 v H6 x6 r6 hr6 w6 => ?_) w5
          have w6 : (match lstO (h6 D) with | some acc => acc.length < sizeLine ∧ dLcGo G g tt te D (wipeD τ vs) Q (items.drop (i + 1)) (hupd h6 D (.lst (acc ++ [y]))) | none => False) := w6
          cases z : lstO (h6 D) with
          | none => rw [z] at w6; exact w6.elim
          | some acc =>
            rw [z] at w6
            obtain ⟨us, s, q⟩ := hr6 _ _ (lstO_of z)
            have x7 := tx_lst (K := K) (o := .lst (us ++ [v])) s
            exact ⟨us, s, by rw [← q.length]; exact w6.1, _, (x2.trans x3).trans (x4.trans (x5.trans (x6.trans x7))), hr6.put x7 (ro_lst x7 (q.append (rvs_cons' r6 rvs_nil'))), w6.2⟩
    · have e : i = items.length := by omega
      subst e
      rw [List.drop_length] at w2
      exact .inl ⟨f1 (Nat.le_refl _), bw _ h' _ H' (x1.trans x2) rv_loc' hr2 w2.2⟩) w
abbrev Blks (X : Cx) (scope : Scope) (P : Cx → Prop) : Prop := ∀ (s : Shared) (H : Hp) (C : Addr) (cl : List (Str × Addr)) (fp : List Addr), P (X.blk s H scope (compEnvC scope cl C X.env) fp)
theorem blk_any {scope : Scope} {Q : Prop} (f : ∀ (s : Shared) (H : Hp) (C : Addr) (cl : List (Str × Addr)) (fp : List Addr), Q) (s : Shared) : Q := f s (fun _ => none) 0 [] []
theorem xlc {elt tg iter : Expr} {ifs : List Expr} {scope : Scope} {own : List (Str × Nat)} {pos : Pos} {w0 : TI} {di : DI} {g0 : TG} {g : DTG} {t0 : TT} {tt : DT} {e0 : TE} {te : DE} (hc : X.calm = true) (hN : X.N.Nodup) (hi : XI X K tg iter w0 di) (ok : BlkOk X.N X.env.scope scope own)
    (hg : ∀ (s : Shared) (H : Hp) (C : Addr) (cl : List (Str × Addr)) (fp : List Addr), XG (X.blk s H scope (compEnvC scope cl C X.env) fp) K tg g0 g) (ho : Own (own.map (·.2)) g0) (ht : ∀ (s : Shared) (H : Hp) (C : Addr) (cl : List (Str × Addr)) (fp : List Addr), XTs (X.blk s H scope (compEnvC scope cl C X.env) fp) K ifs t0 tt) (he : ∀ (s : Shared) (H : Hp) (C : Addr) (cl : List (Str × Addr)) (fp : List Addr), XE (X.blk s H scope (compEnvC scope cl C X.env) fp) K elt e0 te) (hs : ∀ x, foldedSetIterable iter X.env x = pure x := by intro _; rfl) :
    XE X K (.ListComp elt [⟨tg, iter, ifs, 0⟩] scope pos) (tLc w0 g0 t0 e0 (own.map (·.2))) (dLc di g tt te (own.map (·.2))) :=
  ⟨pe_lc hc hN hi.p ok (fun s H C cl fp => (hg s H C cl fp).p) (fun s H C cl fp => (ht s H C cl fp).p) (fun s H C cl fp => (he s H C cl fp).p) hs,
   le_lc hi.l (hg X.s_0 X.H_0 0 [] []).l ho (ht X.s_0 X.H_0 0 [] []).l (he X.s_0 X.H_0 0 [] []).l⟩
theorem xs_setLc {i : Nat} {y : Str} {py : Pos} {elt tg iter : Expr} {ifs : List Expr} {scope : Scope} {own : List (Str × Nat)} {pos spos : Pos} {w0 : TI} {di : DI} {g0 : TG} {g : DTG} {t0 : TT} {tt : DT} {e0 : TE} {te : DE} (hc : X.calm = true) (hN : X.N.Nodup)
    (hi : XI X K tg iter w0 di) (ok : BlkOk X.N X.env.scope scope own) (hg : ∀ (s : Shared) (H : Hp) (C : Addr) (cl : List (Str × Addr)) (fp : List Addr), XG (X.blk s H scope (compEnvC scope cl C X.env) fp) K tg g0 g) (ho : Own (own.map (·.2)) g0) (ht : ∀ (s : Shared) (H : Hp) (C : Addr) (cl : List (Str × Addr)) (fp : List Addr), XTs (X.blk s H scope (compEnvC scope cl C X.env) fp) K ifs t0 tt) (he : ∀ (s : Shared) (H : Hp) (C : Addr) (cl : List (Str × Addr)) (fp : List Addr), XE (X.blk s H scope (compEnvC scope cl C X.env) fp) K elt e0 te)
    (hy : X.N[i]? = some y := by rfl) (hyl : X.env.scope.names.lookup y = some .local := by rfl)
    (hsw : swapsWith (.ListComp elt [⟨tg, iter, ifs, 0⟩] scope pos) (some (.Name y py)) spos.line X.env = pure true := by exact sw_true rfl rfl rfl (by decide +kernel)) (hs : ∀ x, foldedSetIterable iter X.env x = pure x := by intro _; rfl) :
    XS X K (.Assign [.Name y py] (.ListComp elt [⟨tg, iter, ifs, 0⟩] scope pos) spos) (tAsg (tLc w0 g0 t0 e0 (own.map (·.2))) (gName i)) (dAsg (dLc di g tt te (own.map (·.2))) (gdName i)) :=
  ⟨ps_setLc hc hN hy hyl hsw hi.p ok (fun s H C cl fp => (hg s H C cl fp).p) (fun s H C cl fp => (ht s H C cl fp).p) (fun s H C cl fp => (he s H C cl fp).p) hs,
   ls_asg (le_lc hi.l (hg X.s_0 X.H_0 0 [] []).l ho (ht X.s_0 X.H_0 0 [] []).l (he X.s_0 X.H_0 0 [] []).l) (lg_name i)⟩
end
end DL

set_option Elab.async false
set_option linter.all false
set_option maxRecDepth 100000
/-! DL6: defs, calls, built-in functions. -/
namespace DL
open PySem PySem.Spec PyProof.Rows L2

/-! ### room, with nothing being shown -/
structure RoomG (k : Nat) (A : Around) : Prop where
  r : Room k A
  g : A.guards = some []
theorem RoomG.mono {j k : Nat} {A : Around} (r : RoomG k A) (h : j ≤ k) : RoomG j A := ⟨r.r.mono h, r.g⟩
theorem RoomG.hu {k : Nat} {A : Around} (r : RoomG k A) : A.units + 64 < cLine := r.r.units
theorem RoomG.hu1 {k : Nat} {A : Around} (r : RoomG k A) : A.units + 1 < cLine := by have := r.r.units; omega
structure FnG (P : Program) (w : World) (K : PySem.W.Frag) (mg : Str → Option Value) (base : Heap) (CX : CXT) (k : Nat) (f : Addr) (fd : FuncData) (ps : List Str) (sp : Sp) : Prop where
  len : ∀ vs H Q E, sp vs H Q E → vs.length = ps.length
  run : ∀ (A : Around) (outer : List Env) (s : Shared) (H : Hp) (args : Args) (us : List Value) (vs : List V) (Q : VK) (E : XK), RoomG k A → Env0 P w K mg base A outer s H → BindsTo s fd args (ps.zip us) → Vals vs us → sp vs H Q E →
    codeAny (model P w) A (.call (.ref f) args) (CR CX outer P w H s Q E) s
section
variable {P : Program} {w : World} {K : PySem.W.Frag} {mg : Str → Option Value} {base : Heap} {CX : CXT}
theorem FnG.mono {j k : Nat} {f : Addr} {fd : FuncData} {ps : List Str} {sp : Sp} (F : FnG P w K mg base CX j f fd ps sp) (h : j ≤ k) : FnG P w K mg base CX k f fd ps sp :=
  ⟨F.len, fun A outer s H args us vs Q E hr => F.run A outer s H args us vs Q E (hr.mono h)⟩

/-- what a body's run leaves, for the caller -/
theorem body_end {N : List Str} {qual : Str} {scope : Scope} {f : Addr} {cdv : Value} {A : Around} {outer : List Env} {s s' : Shared} {H : Hp} {Q : VK} {E : XK} {fl : Flow}
    (q : SP (cxOf CX P w K mg base N qual scope f cdv A outer s H E) [] { nx := fun _ H' => Q .non H', rt := Q } fl s') :
    match fl with
    | .ret u => CE outer P w H s Q u s'
    | .next => CE outer P w H s Q .none s'
    | _ => False := by
  cases fl with
  | ret u =>
    obtain ⟨v, _, H', J, rv, q⟩ := q
    exact ⟨v, H', J.os, J.bare, J.base, J.hok, rv, q⟩
  | next =>
    obtain ⟨_, H', J, q⟩ := q
    exact ⟨V.non, H', J.os, J.bare, J.base, J.hok, rfl, q⟩
  | brk => obtain ⟨_, _, _, q⟩ := q; exact q
  | cont => obtain ⟨_, _, _, q⟩ := q; exact q
theorem Fun.okG {x qual : Str} {st : Stmt} {f : Addr} {fd : FuncData} {N ps : List Str} {k : Nat} {sp : Sp} (F : Fun K x qual st f fd) (S : FnScope N ps (defScope st)) (len : ∀ vs H Q E, sp vs H Q E → vs.length = ps.length)
    (hbody : ∀ (cdv : Value) (A : Around) (outer : List Env) (s : Shared) (H : Hp) (vs : List V) (Q : VK) (E : XK), RoomG k (A.deeper (envOfC qual (defScope st) s.heap.objs.size f cdv)) → sp vs H Q E →
      ∃ t, PSs (cxOf CX P w K mg base N qual (defScope st) f cdv A outer s H E) (defBody st) t ∧ t { nx := fun _ H' => Q .non H', rt := Q } (L2.start N vs) H) : FnG P w K mg base CX (k + 1) f fd ps sp := by
  obtain ⟨oc, od, kV, doc, pm, an, cdv, ct, osl, e, lk, hcd⟩ := F.ex
  subst e
  refine ⟨len, fun A outer s H args us vs Q E hr e0 hb r hsp => ?_⟩
  have there : ∀ b o, base.get? b = some o → s.heap.get? b = some o := fun b o q => (e0.bs b o q).1
  have KX : K.In s.heap := e0.mod.kin.keeps there
  have lens := len vs H Q E hsp
  refine codeAny_call_function hr.r.depth (KX _ _ lk) rfl S.co S.gen rfl (PySem.W.codeRec_of KX hcd) (hb _ _ _ _ (wpAny_newFunctionEnv_cells S.kind (fun y hy => ?_) fun env he s1 x1 => ?_))
  · cases S.par y.1 (List.of_mem_zip hy).1 with
    | inl q => exact .inl q
    | inr q => exact .inr ⟨q, PySem.W.cellsFrom_some _ _ _ (.inl q)⟩
  · subst he
    obtain ⟨t, ht, hq⟩ := hbody cdv A outer s H vs Q E ⟨hr.r.deeper _, hr.g⟩ hsp
    refine ⟨(e0.mod.nolimit.keeps there).keeps x1.toInCall.keep, codeAny_func (wpAny_mono (ht.run [] s1 (L2.start N vs) H _ (inv_start S hr.r.hd e0 lens r x1) hq) (fun fl s' hs => ?_) fun _ _ hs => hs)⟩
    have q := body_end hs
    cases fl with
    | ret u => exact q
    | next => exact q
    | brk => exact (show False from q).elim
    | cont => exact (show False from q).elim
end

section
variable {X : Cx} {K : PySem.W.Frag} {CX : CXT} {k : Nat} {f : Addr} {fd : FuncData} {ps : List Str} {sp : Sp} {dvs : List V} {ds : List Value} {E : XK} {x : Str} {p pos : Pos} {e : Expr} {es : List Expr} {ta : TA}
theorem runG {pins : List (Addr × Obj)} {σ : L2.St} {H : Hp} {s : Shared} {Q : VK} {us : List Value} {vs : List V} (F : FnG X.prog X.w X.K X.mg X.base CX k f fd ps sp) (hr : RoomG k X.A) (hb : Binds X.K fd ps ds) (hd : Vals dvs ds) (hx : Passes CX X E)
    (I : Inv X pins σ H s) (r : Vals vs us) (h : sp (vs ++ dvs) H Q E) : wpAny (model X.prog X.w) X.A (call (.ref f) us) (EP X pins σ Q) X.xe s := by
  have all : Vals (vs ++ dvs) (us ++ ds) := r.append hd
  have lens : (us ++ ds).length = ps.length := all.length.symm.trans (F.len _ _ _ _ h)
  refine wpAny_call (codeAny_mono (F.run X.A X.stack s H ⟨us, []⟩ _ _ Q E hr I.env0 (hb s us I.kIn lens) all h) fun res s' hq => ?_)
  match res, hq with
  | .error err, hq => exact hx pins σ H s err s' I hq
  | .ok (.ret u), hq => exact I.after hq
theorem peG_call (F : FnG X.prog X.w X.K X.mg X.base CX k f fd ps sp) (hr : RoomG k X.A) (hg : Gl X x) (hm : X.mg x = some (.ref f)) (hk : PySem.W.keepIn X.K (.ref f) = true) (hb : Binds X.K fd ps ds) (hd : Vals dvs ds) (hx : Passes CX X E)
    (ha : PA X (e :: es) ta) (hdb : (x == ("__debug__" : Str)) = false := by decide) (he : starEach (e :: es) X.env = (false, eval e X.env) :: starEach es X.env := by rfl) (hpl : (backTo pos (starEach es X.env)).any (·.1) = false := by rfl) :
    PE X (.Call (.Name x p) (e :: es) [] pos) (tCall sp dvs E ta) := ⟨fun pins s σ H Q I h => wpAny_Call_Name_kw (ld_glob I hg hm
      (PySem.W.callWith_K (h₀ := X.base) I.ok.mod.kin hk (thn (ha.run pos pins s σ H _ I h) fun us s1 ⟨vs, H1, I1, r, q⟩ => ⟨I1.kIn, runG F hr hb hd hx I1 r q⟩) he hpl) hdb)⟩
theorem peG_call0 (F : FnG X.prog X.w X.K X.mg X.base CX k f fd ps sp) (hr : RoomG k X.A) (hg : Gl X x) (hm : X.mg x = some (.ref f)) (hk : PySem.W.keepIn X.K (.ref f) = true) (hb : Binds X.K fd ps ds) (hd : Vals dvs ds) (hx : Passes CX X E)
    (hdb : (x == ("__debug__" : Str)) = false := by decide) : PE X (.Call (.Name x p) [] [] pos) (tCall sp dvs E tNil) := ⟨fun pins s σ H Q I h => wpAny_Call_Name_kw (ld_glob I hg hm (PySem.W.callWith_K0 I.kIn hk (runG (us := []) F hr hb hd hx I .nil h)) hdb)⟩
end

/-! ### a def over trees -/
def spD (K : PySem.W.Frag) (n : Nat) (f : DC) : Sp := fun vs H Q _ => vs.length = n ∧ ∃ ds h Qd, RVs K H ds vs ∧ HR K H h ∧ Bw K H Qd Q ∧ f ds h Qd
def runD (m : Nat) (b : DS) : DC := fun ds h Q => b { nx := fun _ h => Q .non h, rt := Q } (ds.map some ++ List.replicate (m - ds.length) none) h
def dCall (n : Nat) (f : DC) (a : DA) : DE := fun τ h Q => a τ h fun ds h1 => ds.length = n ∧ f ds h1 Q
section
variable {K : PySem.W.Frag}
theorem rs_start {H : Hp} {N : List Str} {ds : List D} {vs : List V} (r : RVs K H ds vs) : RS K H (ds.map some ++ List.replicate (N.length - ds.length) none) (L2.start N vs) := by
  unfold L2.start
  have hl := r.length
  refine ⟨by simp [hl], fun i d e => ?_⟩
  by_cases hi : i < ds.length
  · rw [List.getElem?_append_left (by simpa using hi), List.getElem?_map] at e
    cases z : ds[i]? with
    | none => rw [z] at e; cases e
    | some d0 =>
      rw [z] at e
      cases e
      obtain ⟨v, h1, h2⟩ := r.get z
      exact ⟨v, by rw [List.getElem?_append_left (by simpa [← hl] using hi), List.getElem?_map, h1]; rfl, h2⟩
  · rw [List.getElem?_append_right (by simpa using hi), List.getElem?_replicate] at e
    split at e <;> cases e
theorem le_call {n : Nat} {f : DC} {ta : TA} {da : DA} {E : XK} (la : LA K ta da) : LE K (tCall (spD K n f) [] E ta) (dCall n f da) := fun τ σ h H Q Q0 rs hr bw w =>
  la τ σ h H _ _ rs hr (fun ds h1 vs H1 x1 r1 hr1 w1 => ⟨by rw [List.append_nil, ← r1.length]; exact w1.1, ds, h1, Q, by rw [List.append_nil]; exact r1, hr1, bw.mono x1, w1.2⟩) w
end
section
variable {X : Cx} {K : PySem.W.Frag} {CX : CXT} {k : Nat} {f : Addr} {fd : FuncData} {ps : List Str} {n : Nat} {M : DC} {E : XK} {x : Str} {p pos : Pos} {e : Expr} {es : List Expr} {ta : TA} {da : DA}
theorem xcall (F : FnG X.prog X.w X.K X.mg X.base CX k f fd ps (spD X.K n M)) (hr : RoomG k X.A) (hm : X.mg x = some (.ref f)) (hk : PySem.W.keepIn X.K (.ref f) = true) (hb : Binds X.K fd ps []) (hx : Passes CX X E) (ha : XA X K (e :: es) ta da) (hg : Gl X x := by rfl)
    (hdb : (x == ("__debug__" : Str)) = false := by decide) (he : starEach (e :: es) X.env = (false, eval e X.env) :: starEach es X.env := by rfl) (hpl : (backTo pos (starEach es X.env)).any (·.1) = false := by rfl) (hK : X.K = K := by rfl) :
    XE X K (.Call (.Name x p) (e :: es) [] pos) (tCall (spD K n M) [] E ta) (dCall n M da) := by
  subst hK
  exact ⟨peG_call F hr hg hm hk hb .nil hx ha.p hdb he hpl, le_call ha.l⟩
theorem xcall0 (F : FnG X.prog X.w X.K X.mg X.base CX k f fd ps (spD X.K n M)) (hr : RoomG k X.A) (hm : X.mg x = some (.ref f)) (hk : PySem.W.keepIn X.K (.ref f) = true) (hb : Binds X.K fd ps []) (hx : Passes CX X E) (hg : Gl X x := by rfl)
    (hdb : (x == ("__debug__" : Str)) = false := by decide) (hK : X.K = K := by rfl) : XE X K (.Call (.Name x p) [] [] pos) (tCall (spD K n M) [] E tNil) (dCall n M dNil) := by
  subst hK
  exact ⟨peG_call0 F hr hg hm hk hb .nil hx hdb, le_call (fun τ σ h H Q Q0 rs hr bw w => bw [] h [] H TX.refl rvs_nil' hr w)⟩
end
/-- a def of the text, by its body's derivation -/
theorem okD {P : Program} {w : World} {K : PySem.W.Frag} {mg : Str → Option Value} {base : Heap} {qn qual : Str} {st : Stmt} {f : Addr} {fd : FuncData} {N ps : List Str} {k m n : Nat} {b : DS} (F : Fun K qn qual st f fd) (S : FnScope N ps (defScope st)) (hn : ps.length = n) (hm : N.length = m)
    (hbody : ∀ (cdv : Value) (A : Around) (outer : List Env) (s : Shared) (H : Hp) (E : XK), RoomG k (A.deeper (envOfC qual (defScope st) s.heap.objs.size f cdv)) →
      ∃ t0, XSs (cxOf CX0 P w K mg base N qual (defScope st) f cdv A outer s H E).nox K (defBody st) t0 b) : FnG P w K mg base CX0 (k + 1) f fd ps (spD K n (runD m b)) := by
  refine Fun.okG F S (fun vs H Q E h => h.1.trans hn.symm) (fun cdv A outer s H vs Q E hr h => ?_)
  obtain ⟨hl, ds, h0, Qd, r, hr0, bw, w1⟩ := h
  obtain ⟨t0, xs⟩ := hbody cdv A outer s H E hr
  refine ⟨t0, xs.p.nox, xs.l _ _ h0 H { nx := fun _ h => Qd .non h, rt := Qd } _ (rs_start r) hr0 ⟨fun τ' σ' h' H' x1 _ hr1 w2 => bw _ _ _ _ x1 rv_non' hr1 w2, bw, fun _ _ _ _ _ _ _ w2 => w2.elim, fun _ _ _ _ _ _ _ w2 => w2.elim⟩ ?_⟩
  rw [hm]
  exact w1

/-! ### built-in functions -/
def dCB (q : DC) (a : DA) : DE := fun τ h Q => a τ h fun ds h1 => q ds h1 Q
section
variable {X : Cx} {K : PySem.W.Frag} {x : Str} {p pos : Pos} {e : Expr} {es : List Expr} {ta : TA} {da : DA} {id T : String} {r : List V → Hp → VK → Prop} {q : DC}
theorem le_cb (lc : LC K r q) (la : LA K ta da) : LE K (tCB r ta) (dCB q da) := fun τ σ h H Q Q0 rs hr bw w =>
  la τ σ h H _ _ rs hr (fun ds h1 vs H1 x1 r1 hr1 w1 => lc ds vs h1 H1 Q Q0 r1 hr1 (bw.mono x1) w1) w
theorem xcallB (o : CallR X (.builtin id) r ∧ LC K r q) (hm : X.mg x = none) (ha : XA X K (e :: es) ta da) (hv : bootBuiltins x = some (.builtin id) := by decide +kernel) (hg : Gl X x := by rfl) (hn : x ≠ "__name__" := by decide) (hdb : (x == ("__debug__" : Str)) = false := by decide)
    (he : starEach (e :: es) X.env = (false, eval e X.env) :: starEach es X.env := by rfl) (hpl : (backTo pos (starEach es X.env)).any (·.1) = false := by rfl) : XE X K (.Call (.Name x p) (e :: es) [] pos) (tCB r ta) (dCB q da) := ⟨pe_callB o.1 hg hm hv ha.p hn hdb he hpl, le_cb o.2 ha.l⟩
theorem xcallT (o : CallR X (.type T) r ∧ LC K r q) (hm : X.mg x = none) (ha : XA X K (e :: es) ta da) (hv : bootBuiltins x = some (.type T) := by decide +kernel) (hg : Gl X x := by rfl) (hn : x ≠ "__name__" := by decide) (hdb : (x == ("__debug__" : Str)) = false := by decide)
    (he : starEach (e :: es) X.env = (false, eval e X.env) :: starEach es X.env := by rfl) (hpl : (backTo pos (starEach es X.env)).any (·.1) = false := by rfl) : XE X K (.Call (.Name x p) (e :: es) [] pos) (tCB r ta) (dCB q da) := ⟨pe_callTy o.1 hg hm hv ha.p hn hdb he hpl, le_cb o.2 ha.l⟩

/-- one argument, by what it is -/
def bOne (f : DH → D → Option D) : DC := fun ds h Q => match ds with
  | [d] => need (f h d) h Q
  | _ => False
theorem one_of {f : DH → D → Option D} {ds : List D} {h : DH} {Q : DK} (w : bOne f ds h Q) : ∃ d v, ds = [d] ∧ f h d = some v ∧ Q v h := by
  match ds, w with
  | [d], w => exact ⟨d, (need_of w).choose, rfl, (need_of w).choose_spec.1, (need_of w).choose_spec.2⟩
theorem rvs_one {H : Hp} {d : D} {vs : List V} (r : RVs K H [d] vs) : ∃ v, vs = [v] ∧ RV K H d v := by
  obtain ⟨x, xs, e, q, s⟩ := rvs_cons r
  rw [rvs_nil s] at e
  exact ⟨x, e, q⟩
theorem rvs_two {H : Hp} {d d2 : D} {vs : List V} (r : RVs K H [d, d2] vs) : ∃ v v2, vs = [v, v2] ∧ RV K H d v ∧ RV K H d2 v2 := by
  obtain ⟨x, xs, e, q, s⟩ := rvs_cons r
  obtain ⟨y, e2, q2⟩ := rvs_one s
  rw [e2] at e
  exact ⟨x, y, e, q, q2⟩
def lenO : Option DO → Option D
  | some (.lst xs) => some (.int xs.length)
  | some (.dK xs) => some (.int xs.length)
  | _ => none
def lenD (h : DH) : D → Option D
  | .tup xs => some (.int xs.length)
  | .ktp xs => some (.int xs.length)
  | .fls xs => some (.int xs.length)
  | .str z => if z.length ≤ sizeLine then some (.int z.length) else none
  | .loc a => lenO (h a)
  | _ => none
def rLenU (K : PySem.W.Frag) : List V → Hp → VK → Prop := fun xs H Q => (∃ p ys, xs = [.ref p] ∧ (SqL K H p ys ∨ SqT K H p ys) ∧ Q (.int ys.length) H) ∨ ((∃ z, xs = [.str z] ∧ z.length ≤ sizeLine ∧ Q (.int z.length) H) ∨ ∃ a kvs, xs = [.ref a] ∧ H a = some (.dK kvs) ∧ Q (.int kvs.length) H)
end
end DL

set_option Elab.async false
set_option linter.all false
set_option maxRecDepth 100000
/-! DL7: built-in functions and methods. -/
namespace DL
open PySem PySem.Spec PyProof.Rows L2
section
variable {X : Cx} {K : PySem.W.Frag}
theorem q_len (hK : X.K = K := by rfl) : CallR X (.builtin "len") (rLenU K) ∧ LC K (rLenU K) (bOne lenD) := ⟨by subst hK; exact call_len_seq.or (call_len_str.or call_lenD), fun ds vs h H Q Q0 r hr bw w => by
  obtain ⟨d, v, e, z, w⟩ := one_of w
  subst e
  obtain ⟨x, e1, r1⟩ := rvs_one r
  subst e1
  cases d with
  | tup xs =>
    obtain ⟨a, vs, e2, s, q⟩ := rv_tup r1
    cases z
    refine .inl ⟨a, vs, by rw [e2], .inr (.inl (.inl s)), ?_⟩
    rw [← q.length]
    exact bw _ h _ H TX.refl rv_int' hr w
  | ktp xs =>
    obtain ⟨a, vs, e2, s, q⟩ := rv_ktp r1
    cases z
    refine .inl ⟨a, vs, by rw [e2], .inr s.t, ?_⟩
    rw [← q.length]
    exact bw _ h _ H TX.refl rv_int' hr w
  | fls xs =>
    obtain ⟨a, vs, e2, s, q⟩ := rv_fls r1
    cases z
    refine .inl ⟨a, vs, by rw [e2], .inl s.l, ?_⟩
    rw [← q.length]
    exact bw _ h _ H TX.refl rv_int' hr w
  | str y =>
    have z : (if y.length ≤ sizeLine then some (D.int y.length) else none) = some v := z
    by_cases hl : y.length ≤ sizeLine
    · rw [if_pos hl] at z
      cases z
      exact .inr (.inl ⟨y, by rw [rv_str r1], hl, bw _ h _ H TX.refl rv_int' hr w⟩)
    · rw [if_neg hl] at z; cases z
  | loc a =>
    have z : lenO (h a) = some v := z
    cases ha : h a with
    | none => rw [ha] at z; cases z
    | some o =>
      rw [ha] at z
      cases o with
      | lst xs =>
        obtain ⟨us, s, q⟩ := hr _ _ ha
        cases z
        refine .inl ⟨a, us, by rw [rv_loc r1], .inl (.inl (.inl s)), ?_⟩
        rw [← q.length]
        exact bw _ h _ H TX.refl rv_int' hr w
      | dK xs =>
        obtain ⟨us, s, q⟩ := hr _ _ ha
        cases z
        refine .inr (.inr ⟨a, us, by rw [rv_loc r1], s, ?_⟩)
        rw [← rkv_length q]
        exact bw _ h _ H TX.refl rv_int' hr w
      | _ => cases z
  | _ => cases z⟩
def absD (_ : DH) : D → Option D
  | .int i => some (.int (if i < 0 then -i else i))
  | _ => none
theorem q_abs : CallR X (.builtin "abs") (fun xs H Q => ∃ i, xs = [.int i] ∧ Q (.int (if i < 0 then -i else i)) H) ∧ LC K (fun xs H Q => ∃ i, xs = [.int i] ∧ Q (.int (if i < 0 then -i else i)) H) (bOne absD) := ⟨call_abs, fun ds vs h H Q Q0 r hr bw w => by
  obtain ⟨d, v, e, z, w⟩ := one_of w
  subst e
  obtain ⟨x, e1, r1⟩ := rvs_one r
  subst e1
  cases d with
  | int i =>
    cases z
    exact ⟨i, by rw [rv_int r1], bw _ h _ H TX.refl rv_int' hr w⟩
  | _ => cases z⟩
def intD (_ : DH) : D → Option D
  | .int i => some (.int i)
  | .bl k => some (.int (if k then 1 else 0))
  | _ => none
def rInt1 : List V → Hp → VK → Prop := fun xs H Q => (∃ i, xs = [.int i] ∧ Q (.int i) H) ∨ ∃ k, xs = [.bl k] ∧ Q (.int (if k then 1 else 0)) H
theorem q_int : CallR X (.type "int") rInt1 ∧ LC K rInt1 (bOne intD) := ⟨call_int1, fun ds vs h H Q Q0 r hr bw w => by
  obtain ⟨d, v, e, z, w⟩ := one_of w
  subst e
  obtain ⟨x, e1, r1⟩ := rvs_one r
  subst e1
  cases d with
  | int i =>
    cases z
    exact .inl ⟨i, by rw [rv_int r1], bw _ h _ H TX.refl rv_int' hr w⟩
  | bl k =>
    cases z
    exact .inr ⟨k, by rw [rv_bl r1], bw _ h _ H TX.refl rv_int' hr w⟩
  | _ => cases z⟩
/-- min, max: two ints, or a list of ints -/
def intsD : List D → Option (List Int)
  | [] => some []
  | .int i :: ds => (intsD ds).map (i :: ·)
  | _ :: _ => none
theorem intsD_eq : ∀ {ds : List D} {ns : List Int}, intsD ds = some ns → ds = ns.map D.int
  | [], ns, e => by cases e; rfl
  | .int i :: ds, ns, e => by
    obtain ⟨ms, e1, e2⟩ := Option.map_eq_some_iff.mp (show (intsD ds).map (i :: ·) = some ns from e)
    subst e2
    rw [intsD_eq e1]; rfl
theorem intsD_map : ∀ ns : List Int, intsD (ns.map D.int) = some ns
  | [] => rfl
  | n :: ns => by show (intsD (ns.map D.int)).map (n :: ·) = _; rw [intsD_map ns]; rfl
def bMin : DC := fun ds h Q => match ds with
  | [.int i, .int j] => Q (.int (if j < i then j else i)) h
  | [d] => (match (seqD h d).bind intsD with
    | some ns => 0 < ns.length ∧ ∀ m, m ∈ ns → (∀ y, y ∈ ns → m ≤ y) → Q (.int m) h
    | none => False)
  | _ => False
def bMax : DC := fun ds h Q => match ds with
  | [.int i, .int j] => Q (.int (if j > i then j else i)) h
  | [d] => (match (seqD h d).bind intsD with
    | some ns => 0 < ns.length ∧ ∀ m, m ∈ ns → (∀ y, y ∈ ns → y ≤ m) → Q (.int m) h
    | none => False)
  | _ => False
theorem seqD_v {d : D} {v : V} {h : DH} {H : Hp} {xs : List D} (hr : HR K H h) (r : RV K H d v) (e : seqD h d = some xs) : ∃ a vs, v = .ref a ∧ SqL K H a vs ∧ RVs K H xs vs := by
  cases d with
  | loc a =>
    obtain ⟨vs, s, q⟩ := hr _ _ (lstO_of (show lstO (h a) = some xs from e))
    exact ⟨a, vs, rv_loc r, .inl (.inl s), q⟩
  | fls ys =>
    cases e
    obtain ⟨a, vs, e1, s, q⟩ := rv_fls r
    exact ⟨a, vs, e1, s.l, q⟩
  | _ => cases e
theorem ints_v {d : D} {v : V} {h : DH} {H : Hp} {ns : List Int} (hr : HR K H h) (r : RV K H d v) (e : (seqD h d).bind intsD = some ns) : ∃ a, v = .ref a ∧ SqL K H a (ns.map V.int) := by
  obtain ⟨xs, e1, e2⟩ := Option.bind_eq_some_iff.mp e
  obtain ⟨a, vs, e3, s, q⟩ := seqD_v hr r e1
  rw [intsD_eq e2] at q
  rw [q.ints] at s
  exact ⟨a, e3, s⟩
def rMinU (K : PySem.W.Frag) : List V → Hp → VK → Prop := fun xs H Q => (∃ i j, xs = [.int i, .int j] ∧ Q (.int (if j < i then j else i)) H) ∨ rMin K xs H Q
def rMaxU (K : PySem.W.Frag) : List V → Hp → VK → Prop := fun xs H Q => (∃ i j, xs = [.int i, .int j] ∧ Q (.int (if j > i then j else i)) H) ∨ rMax K xs H Q
theorem q_min (hc : X.calm = true) (hK : X.K = K := by rfl) : CallR X (.builtin "min") (rMinU K) ∧ LC K (rMinU K) bMin := ⟨by subst hK; exact (call_min2 hc).or (cr_min hc), fun ds vs h H Q Q0 r hr bw w => by
  match ds, w, r with
  | [.int i, .int j], w, r =>
    obtain ⟨x, y, e, r1, r2⟩ := rvs_two r
    exact .inl ⟨i, j, by rw [e, rv_int r1, rv_int r2], bw _ h _ H TX.refl rv_int' hr w⟩
  | [d], w, r =>
    obtain ⟨x, e1, r1⟩ := rvs_one r
    have w : (match (seqD h d).bind intsD with | some ns => 0 < ns.length ∧ ∀ m, m ∈ ns → (∀ y, y ∈ ns → m ≤ y) → Q (.int m) h | none => False) := by cases d <;> exact w
    cases z : (seqD h d).bind intsD with
    | none => rw [z] at w; exact w.elim
    | some ns =>
      rw [z] at w
      obtain ⟨a, e2, s⟩ := ints_v hr r1 z
      exact .inr ⟨a, ns, by rw [e1, e2], s, w.1, fun m h1 h2 => bw _ h _ H TX.refl rv_int' hr (w.2 m h1 h2)⟩⟩
theorem q_max (hc : X.calm = true) (hK : X.K = K := by rfl) : CallR X (.builtin "max") (rMaxU K) ∧ LC K (rMaxU K) bMax := ⟨by subst hK; exact (call_max2 hc).or (cr_max hc), fun ds vs h H Q Q0 r hr bw w => by
  match ds, w, r with
  | [.int i, .int j], w, r =>
    obtain ⟨x, y, e, r1, r2⟩ := rvs_two r
    exact .inl ⟨i, j, by rw [e, rv_int r1, rv_int r2], bw _ h _ H TX.refl rv_int' hr w⟩
  | [d], w, r =>
    obtain ⟨x, e1, r1⟩ := rvs_one r
    have w : (match (seqD h d).bind intsD with | some ns => 0 < ns.length ∧ ∀ m, m ∈ ns → (∀ y, y ∈ ns → y ≤ m) → Q (.int m) h | none => False) := by cases d <;> exact w
    cases z : (seqD h d).bind intsD with
    | none => rw [z] at w; exact w.elim
    | some ns =>
      rw [z] at w
      obtain ⟨a, e2, s⟩ := ints_v hr r1 z
      exact .inr ⟨a, ns, by rw [e1, e2], s, w.1, fun m h1 h2 => bw _ h _ H TX.refl rv_int' hr (w.2 m h1 h2)⟩⟩
def sumD (h : DH) (d : D) : Option D := ((seqD h d).bind intsD).map fun ns => .int ns.sum
theorem q_sum (hc : X.calm = true) (hK : X.K = K := by rfl) : CallR X (.builtin "sum") (rSum K) ∧ LC K (rSum K) (bOne sumD) := ⟨by subst hK; exact cr_sum hc, fun ds vs h H Q Q0 r hr bw w => by
  obtain ⟨d, v, e, z, w⟩ := one_of w
  subst e
  obtain ⟨x, e1, r1⟩ := rvs_one r
  obtain ⟨ns, z1, z2⟩ := Option.map_eq_some_iff.mp z
  subst z2
  obtain ⟨a, e2, s⟩ := ints_v hr r1 z1
  exact ⟨a, ns, by rw [e1, e2], s, bw _ h _ H TX.refl rv_int' hr w⟩⟩
/-- tuple(a list), list(a list or a tuple) -/
def isTup : D → Option (List D)
  | .tup xs => some xs
  | _ => none
def bTup : DC := fun ds h Q => match ds with
  | [d] => (match (isTup d).or (seqD h d) with
    | some xs => Q (.tup xs) h
    | none => False)
  | _ => False
def rTupU (K : PySem.W.Frag) : List V → Hp → VK → Prop := fun xs H Q => ∃ p ys, xs = [.ref p] ∧ ((SqL K H p ys ∧ ∀ l, H l = none → Q (.ref l) (upd H l (.tup ys))) ∨ (SqT K H p ys ∧ Q (.ref p) H))
theorem q_tup (hK : X.K = K := by rfl) : CallR X (.type "tuple") (rTupU K) ∧ LC K (rTupU K) bTup := ⟨by subst hK; exact call_tuple_of, fun ds vs h H Q Q0 r hr bw w => by
  match ds, w, r with
  | [d], w, r =>
    obtain ⟨x, e1, r1⟩ := rvs_one r
    have w : (match (isTup d).or (seqD h d) with | some xs => Q (.tup xs) h | none => False) := w
    cases d with
    | tup xs =>
      obtain ⟨a, vs, e2, s, q⟩ := rv_tup r1
      exact ⟨a, vs, by rw [e1, e2], .inr ⟨.inl (.inl s), bw _ h _ H TX.refl (rv_tup' s q) hr w⟩⟩
    | loc b =>
      have w : (match seqD h (.loc b) with | some xs => Q (.tup xs) h | none => False) := w
      cases z : seqD h (.loc b) with
      | none => rw [z] at w; exact w.elim
      | some xs =>
        rw [z] at w
        obtain ⟨a, vs, e2, s, q⟩ := seqD_v hr r1 z
        exact ⟨a, vs, by rw [e1, e2], .inl ⟨s, fun p hp => bw_tup hr bw hp q w⟩⟩
    | fls ys =>
      obtain ⟨a, vs, e2, s, q⟩ := seqD_v hr r1 (show seqD h (.fls ys) = some ys from rfl)
      exact ⟨a, vs, by rw [e1, e2], .inl ⟨s, fun p hp => bw_tup hr bw hp q w⟩⟩
    | _ => exact w.elim⟩
def anyD (h : DH) : D → Option (List D)
  | .tup xs => some xs
  | .ktp xs => some xs
  | d => seqD h d
def bList : DC := fun ds h Q => match ds with
  | [d] => (match anyD h d with
    | some xs => ∀ p, h p = none → Q (.loc p) (hupd h p (.lst xs))
    | none => False)
  | _ => False
def rListU (K : PySem.W.Frag) : List V → Hp → VK → Prop := fun xs H Q => ∃ p ys, xs = [.ref p] ∧ (SqL K H p ys ∨ SqT K H p ys) ∧ ∀ l, H l = none → Q (.ref l) (upd H l (.lst ys))
theorem anyD_v {d : D} {v : V} {h : DH} {H : Hp} {xs : List D} (hr : HR K H h) (r : RV K H d v) (e : anyD h d = some xs) : ∃ a vs, v = .ref a ∧ (SqL K H a vs ∨ SqT K H a vs) ∧ RVs K H xs vs := by
  cases d with
  | tup ys => cases e; obtain ⟨a, vs, e2, s, q⟩ := rv_tup r; exact ⟨a, vs, e2, .inr (.inl (.inl s)), q⟩
  | ktp ys => cases e; obtain ⟨a, vs, e2, s, q⟩ := rv_ktp r; exact ⟨a, vs, e2, .inr s.t, q⟩
  | loc b => obtain ⟨a, vs, e2, s, q⟩ := seqD_v hr r e; exact ⟨a, vs, e2, .inl s, q⟩
  | fls b => obtain ⟨a, vs, e2, s, q⟩ := seqD_v hr r e; exact ⟨a, vs, e2, .inl s, q⟩
  | _ => cases e
theorem q_list (hK : X.K = K := by rfl) : CallR X (.type "list") (rListU K) ∧ LC K (rListU K) bList := ⟨by subst hK; exact call_list_of, fun ds vs h H Q Q0 r hr bw w => by
  match ds, w, r with
  | [d], w, r =>
    obtain ⟨x, e1, r1⟩ := rvs_one r
    have w : (match anyD h d with | some xs => ∀ p, h p = none → Q (.loc p) (hupd h p (.lst xs)) | none => False) := w
    cases z : anyD h d with
    | none => rw [z] at w; exact w.elim
    | some xs =>
      rw [z] at w
      obtain ⟨a, vs, e2, s, q⟩ := anyD_v hr r1 z
      exact ⟨a, vs, by rw [e1, e2], s, fun p hp => bw_new hr bw hp (ro_lst (tx_new hp) q) (w p)⟩⟩

/-! ### repr -/
def rRepr (K : PySem.W.Frag) : List V → Hp → VK → Prop := fun xs H Q => ∃ x p, xs = [x] ∧ Dp K H x p ∧ p.hasDict = false ∧ p.showable = true ∧ p.depth ≤ 50 ∧ p.shown.length ≤ sizeLine ∧ Q (.str p.shown) H
theorem call_repr (hg : X.A.guards = some []) (hu : X.A.units + 64 < cLine) : CallR X (.builtin "repr") (rRepr X.K) := by
  intro pins s σ H xs us Q I r h
  obtain ⟨x, p, rfl, dp, nd, sh, hd, hz, q⟩ := h
  obtain ⟨u, e, ru⟩ : ∃ u, us = [u] ∧ RelV x u := by
    cases r with
    | cons r rr => cases rr; exact ⟨_, rfl, r⟩
  subst e
  obtain ⟨as, rd⟩ := Dp.reads I p x u dp ru
  have fin : ∀ h' w' tk, (∀ b o, s.heap.get? b = some o → h'.get? b = some o) → EP X pins σ Q (.str p.shown w') { s with heap := h', toks := tk } := fun h' w' tk k => ⟨.str p.shown, H, I.kept k, ⟨_, rfl⟩, q⟩
  have same : ∀ b o, s.heap.get? b = some o → s.heap.get? b = some o := fun _ _ z => z
  cases dp with
  | non =>
    cases (show u = Value.none from ru)
    refine PySem.P.repr_of_none ?_
    have e : (PyData.none).shown = "None" := by simp [PyData.shown]
    rw [← e]; exact fin _ _ _ same
  | bl b =>
    cases (show u = Value.bool b from ru)
    refine PySem.P.repr_of_bool ?_
    have e : (PyData.bool b).shown = (if b = true then ("True" : Str) else ("False" : Str)) := by simp [PyData.shown]
    rw [← e]; exact fin _ _ _ same
  | int i =>
    obtain ⟨t, e⟩ := (show ∃ t, u = Value.int i t from ru)
    subst e
    refine PySem.P.repr_of_int (by simpa [PyData.showable] using sh) ?_
    have e : (PyData.int i).shown = toString i := by simp [PyData.shown]
    rw [← e]; exact fin _ _ _ same
  | str y =>
    obtain ⟨t, e⟩ := (show ∃ t, u = Value.str y t from ru)
    subst e
    have e : (PyData.str y).shown = reprText y := by simp [PyData.shown]
    refine PySem.P.repr_of_str ?_ (by rw [← e]; exact hz)
    rw [← e]; exact fin _ _ _ same
  | lst hs ha =>
    cases (show u = Value.ref _ from ru)
    exact repr_of_reads' rd sh (PyData.noDict_hsm nd) hg (by omega) same (fun h' u tk k => fin h' u tk k) hz
  | tup hs ha =>
    cases (show u = Value.ref _ from ru)
    exact repr_of_reads' rd sh (PyData.noDict_hsm nd) hg (by omega) same (fun h' u tk k => fin h' u tk k) hz
def bRepr : DC := fun ds h Q => match ds with
  | [d] => ∃ p, PD h d p ∧ p.showable = true ∧ p.depth ≤ 50 ∧ p.shown.length ≤ sizeLine ∧ Q (.str p.shown) h
  | _ => False
theorem q_repr {k : Nat} (hr : RoomG k X.A) (hK : X.K = K := by rfl) : CallR X (.builtin "repr") (rRepr K) ∧ LC K (rRepr K) bRepr := ⟨by subst hK; exact call_repr hr.g hr.hu, fun ds vs h H Q Q0 r hr bw w => by
  match ds, w, r with
  | [d], ⟨p, pd, a1, a2, a3, w⟩, r =>
    obtain ⟨x, e1, r1⟩ := rvs_one r
    exact ⟨x, p, e1, pd.dp hr r1, pd.noDict, a1, a2, a3, bw _ h _ H TX.refl rv_str' hr w⟩⟩

/-! ### methods of lists -/
def dAppend (a : DE) (b : DE) : DE := fun τ h Q => a τ h fun x h1 => match x with
  | .loc l => (∃ xs, h1 l = some (.lst xs)) ∧ b τ h1 fun y h2 => (match lstO (h2 l) with
    | some xs => xs.length < sizeLine ∧ Q .non (hupd h2 l (.lst (xs ++ [y])))
    | none => False)
  | _ => False
theorem lm_append {ta te : TE} {da de : DE} (la : LE K ta da) (le : LE K te de) : LE K (tBM K "list" rAppend ta (tCons te tNil)) (dAppend da de) := fun τ σ h H Q Q0 rs hr bw w =>
  la τ σ h H _ _ rs hr (fun x h1 v H1 x1 r1 hr1 w1 => by
    cases x with
    | loc l =>
      obtain ⟨⟨xs0, hl⟩, w1⟩ := w1
      obtain ⟨vs0, s0, q0⟩ := hr1 _ _ hl
      have e := rv_loc r1
      subst e
      refine ⟨Or.inl ⟨rfl, _, Or.inl (Or.inl s0)⟩, ?_⟩
      refine le τ σ h1 H1 _ _ (rs.mono x1) hr1 (fun y h2 u H2 x2 r2 hr2 w2 => ?_) w1
      have w2 : (match lstO (h2 l) with | some xs => xs.length < sizeLine ∧ Q .non (hupd h2 l (.lst (xs ++ [y]))) | none => False) := w2
      cases z : lstO (h2 l) with
      | none => rw [z] at w2; exact w2.elim
      | some xs =>
        rw [z] at w2
        obtain ⟨vs, s, q⟩ := hr2 _ _ (lstO_of z)
        have x3 := tx_lst (K := K) (o := .lst (vs ++ [u])) s
        exact ⟨l, vs, u, rfl, rfl, s, by rw [← q.length]; exact w2.1, bw _ _ _ _ (x1.trans (x2.trans x3)) rv_non' (hr2.put x3 (ro_lst x3 (q.append (rvs_cons' r2 rvs_nil')))) w2.2⟩
    | _ => exact w1.elim) w
end
end DL

set_option Elab.async false
set_option linter.all false
set_option maxRecDepth 100000
set_option maxHeartbeats 2000000
/-! DL8: sorted(set(tuples of ints)). -/
namespace DL
open PySem PySem.Spec PyProof.Rows PyProof.Rows.G L2

/-! ### the order of int lists -/
theorem lex_ints : ∀ as bs : List Int, PyProof.Rows.lexLt itemOrd (as.map Sum.inl) (bs.map Sum.inl) = HT.lexLt as bs := by
  intro as
  induction as with
  | nil => intro bs; cases bs <;> rfl
  | cons a as ih =>
    intro bs
    cases bs with
    | nil => rfl
    | cons b bs =>
      rw [HT.lexLt_cons, List.map_cons, List.map_cons]
      by_cases h : a = b
      · subst h
        rw [if_pos rfl, lex_self]
        exact ih bs
      · rw [if_neg h, lex_diff (fun z => h (Sum.inl.inj z))]
        rfl
def shI : Nat → Bool := fun _ => false
theorem items_ints : ∀ {vs : List Value} {ns : List Int} (i : Nat), IntsAre vs ns → tupItems shI i vs = some (ns.map Sum.inl)
  | [], ns, i, h => by cases h; rfl
  | v :: vs, ns, i, h => by
    cases h with
    | cons n t r =>
      show (if shI i = true then none else (tupItems shI (i + 1) _).map (Sum.inl n :: ·)) = _
      rw [if_neg (show ¬ shI i = true from Bool.false_ne_true), items_ints (i + 1) r]
      rfl
section
variable {P : Program} {w : World} {A : Around} {E : Value → Shared → Prop} {s : Shared}
theorem key_ints {h : Heap} {k : List Int} {a : Addr} (x : IsT P w h k a) : tupKeyC h shI (.ref a) = some (k.map Sum.inl) := by
  obtain ⟨o, items, n, ho, hc, hd, hi⟩ := x
  have e1 : isTupObj h (.ref a) = true := by unfold isTupObj; simp [ho, hc]
  unfold tupKeyC
  rw [if_pos e1]
  unfold tupKey
  simp only [ho, hd]
  exact items_ints 0 (ints_of_items hi)
theorem tup_first {h : Heap} {k : List Int} {a : Addr} (x : IsT P w h k a) (hk : k ≠ []) : ∃ f, TupOf h shI (.ref a) f := by
  obtain ⟨o, items, n, ho, hc, hd, hi⟩ := x
  have hi := ints_of_items hi
  obtain ⟨l⟩ := items
  cases hi with
  | nil => exact absurd rfl hk
  | cons m t r => exact ⟨_, a, o, _, n, rfl, ho, hc, hd, rfl, fun _ => ⟨m, t, rfl⟩, fun z => absurd z (by decide)⟩
theorem tups_first {h : Heap} : ∀ vs : List Value, (∀ v ∈ vs, ∃ f, TupOf h shI v f) → ∃ fs, TupsOf h shI vs fs
  | [], _ => ⟨[], .nil⟩
  | v :: vs, q => by
    obtain ⟨f, hf⟩ := q v List.mem_cons_self
    obtain ⟨fs, hfs⟩ := tups_first vs fun u hu => q u (List.mem_cons_of_mem _ hu)
    exact ⟨f :: fs, .cons hf hfs⟩
/-- values that are the addresses of rows of L come from a list of rows -/
theorem rows_back {L : List (Addr × List Int)} : ∀ vs : List Value, (∀ v ∈ vs, ∃ q ∈ L, v = Value.ref q.1) → ∃ M : List (Addr × List Int), vs = M.map (fun q => Value.ref q.1) ∧ ∀ q ∈ M, q ∈ L
  | [], _ => ⟨[], rfl, fun _ h => nomatch h⟩
  | v :: vs, hv => by
    obtain ⟨q, hq, e⟩ := hv v List.mem_cons_self
    obtain ⟨M, e2, hM⟩ := rows_back vs fun u hu => hv u (List.mem_cons_of_mem _ hu)
    exact ⟨q :: M, by rw [List.map_cons, e, e2], fun r hr => (List.mem_cons.mp hr).elim (fun z => z ▸ hq) (hM r)⟩
theorem nodup_of_map' {α β : Type} {f : α → β} : ∀ {l : List α}, (l.map f).Nodup → l.Nodup
  | [], _ => List.nodup_nil
  | a :: l, h => by
    rw [List.map_cons] at h
    obtain ⟨h1, h2⟩ := List.nodup_cons.mp h
    exact List.nodup_cons.mpr ⟨fun q => h1 (List.mem_map.mpr ⟨a, q, rfl⟩), nodup_of_map' h2⟩
theorem rows_perm {L M : List (Addr × List Int)} (nL : L.Nodup) (one : ∀ q ∈ L, ∀ r ∈ L, q.1 = r.1 → q = r) (hM : ∀ q ∈ M, q ∈ L) (pm : (M.map fun q => Value.ref q.1).Perm (L.map fun q => Value.ref q.1)) : M.Perm L := by
  have nr : (L.map fun q => Value.ref q.1).Nodup := List.pairwise_map.mpr (List.Pairwise.imp_of_mem (fun {q r} hq hr hne e => hne (one q hq r hr (by injection e))) nL)
  have nM : M.Nodup := nodup_of_map' (pm.nodup_iff.mpr nr)
  refine (List.perm_ext_iff_of_nodup nM nL).mpr fun q => ⟨hM q, fun hq => ?_⟩
  obtain ⟨r, hr, e⟩ := List.mem_map.mp (pm.mem_iff.mpr (List.mem_map.mpr ⟨q, hq, rfl⟩))
  have e2 : r = q := one r (hM r hr) q hq (by injection e)
  rw [← e2]; exact hr
theorem sort_set {a : Addr} {L : List (Addr × List Int)} {es : Array (Int × Value)} {ep : Nat} {t : SetTable} {Q : Value → Shared → Prop} (R : SetTR P w s.heap a L es ep t) (hh : A.handled = none) (hne : ∀ p ∈ L, p.2 ≠ [])
    (hQ : ∀ s' p c (M : List (Addr × List Int)), (∀ b o, s.heap.get? b = some o → s'.heap.get? b = some o) → s'.gens = s.gens → s'.os = s.os → s.heap.objs.size ≤ p →
      s'.heap.get? p = some (seqObj "list" (M.map fun q => Value.ref q.1).toArray c) → M.Perm L → M.Pairwise (fun q r => HT.lexLt q.2 r.2 = true) → Q (.ref p) s') : wpAny (model P w) A (call (.builtin "sorted") [.ref a]) Q E s := by
  obtain ⟨o, ho, hex, hd⟩ := R.ob
  have few := R.few
  refine Calls.call_function_entry kind_sorted plain_sorted entry_sorted (args_sorted1 _) ?_
  unfold Builtin.«sorted»
  refine wpAny_bind (m := checkCount "sorted" 1 1 _) (wpAny_pure (wpAny_bind (collect_set (A := A.in1) hh ⟨o, ho, hex.1, hd⟩ R.fits (by unfold scanBound; have := R.size; omega) R.tab.ris R.led fun s1 vs k1 hz g1 o1 pm => ?_)))
  have hes : es.toList.map (·.2) = L.map fun q => Value.ref q.1 := by
    rw [R.rows]
    show (L.map _).map _ = _
    rw [List.map_map]; rfl
  rw [hes] at pm
  have nL : L.Nodup := nodup_of_map R.nd
  have one : ∀ q ∈ L, ∀ r ∈ L, q.1 = r.1 → q = r := fun q hq r hr e => by
    have a1 := R.tup q hq
    rw [e] at a1
    exact Prod.ext e (a1.inj (R.tup r hr))
  have lenv : vs.length < 64 := by rw [pm.length_eq, List.length_map]; exact few
  refine wpAny_bind (wpAny_newList ?_ (by rw [sizeLine_eq]; omega))
  have hoL : (s1.heap.push (seqObj "list" vs.toArray 0)).get? s1.heap.objs.size = some (seqObj "list" vs.toArray 0) := Heap.get?_push_size _ rfl
  have keep : ∀ b u, s.heap.get? b = some u → (s1.heap.push (seqObj "list" vs.toArray 0)).get? b = some u := fun b u e => Heap.get?_push_of_some _ (k1 b u e)
  have isT : ∀ q ∈ L, IsT P w (s1.heap.push (seqObj "list" vs.toArray 0)) q.2 q.1 := fun q hq => isT_keep (R.tup q hq) keep
  have row : ∀ v ∈ vs, ∃ q ∈ L, v = Value.ref q.1 := fun v hv => by
    obtain ⟨q, hq, e⟩ := List.mem_map.mp (pm.mem_iff.mp hv)
    exact ⟨q, hq, e.symm⟩
  obtain ⟨fs, hfs⟩ := tups_first (h := s1.heap.push (seqObj "list" vs.toArray 0)) vs fun v hv => by
    obtain ⟨q, hq, e⟩ := row v hv
    rw [e]
    exact tup_first (isT q hq) (hne q hq)
  have hkey : ∀ v, v ∈ vs → ∃ l, tupKeyC (s1.heap.push (seqObj "list" vs.toArray 0)) shI v = some l := fun v hv => by
    obtain ⟨q, hq, e⟩ := row v hv
    exact ⟨_, by rw [e]; exact key_ints (isT q hq)⟩
  refine wpAny_bind (wpAny_holding (wpAny_call_entry slot_list_sort ⟨_, hoL, rfl⟩ entry_list_sort (list_sort_tups (s := { s1 with heap := s1.heap.push (seqObj "list" vs.toArray 0) }) hoL hfs hkey (by rw [sizeLine_eq]; omega) fun st b1 b2 b3 => ⟨_, rfl, ?_⟩) (args_list_sort _)))
  -- what the sort gives
  have same : ∀ p ∈ (arrOf st).toList, p.1 = p.2 := fun p hp => by
    have hm : p ∈ (pairsOf vs).toList := (Array.Perm.toList b1).mem_iff.mp hp
    rw [pairsOf_toList] at hm
    exact (mem_zip_self hm).1
  have pv : ((arrOf st).toList.map (·.2)).Perm vs := by
    have q := (Array.Perm.toList b1).map (fun p : Value × Value => p.2)
    rw [pairsOf_toList] at q
    have e : (vs.zip vs).map (fun p : Value × Value => p.2) = vs := List.map_snd_zip (Nat.le_refl _)
    rw [e] at q
    exact q
  obtain ⟨M, eM, hM⟩ := rows_back (L := L) ((arrOf st).toList.map (·.2)) fun v hv => row v (pv.mem_iff.mp hv)
  have pL : M.Perm L := rows_perm nL one hM (by rw [← eM]; exact pv.trans pm)
  have hout : ((arrOf st).map (·.2)) = (M.map fun q => Value.ref q.1).toArray := Array.ext' (by rw [Array.toList_map]; exact eM)
  have pw : M.Pairwise (fun q r => HT.lexLt q.2 r.2 = true) := by
    have lenM : M.length = (arrOf st).toList.length := by
      have := congrArg List.length eM
      simpa using this.symm
    have lenA : (arrOf st).toList.length = (pairsOf vs).size := by simpa using b1.size_eq
    have kk : ∀ (i : Nat) (hi : i < M.length), KK (tupKindC (s1.heap.push (seqObj "list" vs.toArray 0)) shI) (arrOf st) i = (M[i]).2.map Sum.inl := fun i hi => by
      have hi2 : i < (arrOf st).toList.length := by omega
      have g1 : (arrOf st)[i]? = some ((arrOf st).toList[i]) := by
        rw [← Array.getElem?_toList]; exact List.getElem?_eq_getElem hi2
      have g2 : ((arrOf st).toList[i]).2 = Value.ref (M[i]).1 := by
        have e := congrArg (fun l : List Value => l[i]?) eM
        simp only [List.getElem?_map, List.getElem?_eq_getElem hi2, List.getElem?_eq_getElem hi] at e
        exact Option.some.inj e
      have g3 := same _ (List.getElem_mem hi2)
      unfold KK
      rw [g1]
      show ((tupKeyC _ shI ((arrOf st).toList[i]).1)).getD _ = _
      rw [g3, g2, key_ints (isT _ (hM _ (List.getElem_mem hi)))]
      rfl
    refine List.pairwise_iff_getElem.mpr fun i j hi hj hij => ?_
    have le := b2 i j (by omega) (by omega)
    rw [kk i hi, kk j hj] at le
    have le2 : HT.lexLt (M[j]).2 (M[i]).2 = false := by rw [← lex_ints]; exact le
    have ne : (M[i]).2 ≠ (M[j]).2 := by
      have nd : (M.map (·.2)).Nodup := (pL.map _).nodup_iff.mpr R.nd
      have q := List.pairwise_iff_getElem.mp nd i j (by simpa using hi) (by simpa using hj) hij
      simpa using q
    cases z : HT.lexLt (M[i]).2 (M[j]).2 with
    | true => rfl
    | false =>
      rw [← lex_ints] at z le2
      have e := lex_total _ _ z le2
      exact absurd ((List.map_inj_right fun _ _ q => Sum.inl.inj q).mp e) ne
  obtain ⟨c, hc⟩ := sortedHeap_at (vs := vs) (out := (arrOf st).map (·.2)) hoL
  refine wpAny_pure ⟨_, rfl, hQ _ s1.heap.objs.size c M (fun b u e => ?_) g1 o1 hz (by
    show (sortedHeap (s1.heap.push (seqObj "list" vs.toArray 0)) s1.heap.objs.size vs ((arrOf st).map (·.2))).get? _ = _
    rw [hc, hout]) pL pw⟩
  have q := k1 b u e
  have hlt := Heap.lt_size q
  show (sortedHeap (s1.heap.push (seqObj "list" vs.toArray 0)) s1.heap.objs.size vs _).get? b = some u
  rw [sortedHeap_old (Nat.ne_of_lt hlt) (by rw [size_push']; exact Nat.lt_succ_of_lt hlt)]
  exact Heap.get?_push_of_some _ q
end

/-! ### sorted(set(xs)), xs a list of tuples of ints -/
def rSortSet (K : PySem.W.Frag) (P : Program) (w : World) : List V → Hp → VK → Prop := fun vs H Q => ∃ (a : Addr) (L : List (Addr × List Int)), vs = [V.ref a] ∧ H a = some (SetTO P w a L) ∧ (∀ p ∈ L, SqT K H p.1 (p.2.map V.int)) ∧ (∀ p ∈ L, p.2 ≠ []) ∧
  ∀ (M : List (Addr × List Int)) (p : Addr), M.Perm L → M.Pairwise (fun q r => HT.lexLt q.2 r.2 = true) → M.length < 64 → H p = none → Q (.ref p) (upd H p (.lst (M.map fun q => V.ref q.1)))
theorem vals_refsM : ∀ M : List (Addr × List Int), Vals (M.map fun q => V.ref q.1) (M.map fun q => Value.ref q.1)
  | [] => .nil
  | q :: M => .cons rfl (vals_refsM M)
theorem cr_sortSet {X : Cx} (hc : X.calm = true) : CallR X (.builtin "sorted") (rSortSet X.K X.prog X.w) := by
  intro pins s σ H vs us Q I r h
  obtain ⟨a, L, rfl, hs, ht, hne, q⟩ := h
  rw [Vals.ref1 r]
  have o : SetT0 X.prog X.w s.heap a L := (show ObjOk X.prog X.w H s.heap a (SetTO X.prog X.w a L) from I.hok a _ hs).1
  obtain ⟨es, ep, t, R⟩ := o.full fun p hp => I.isT (ht p hp)
  refine sort_set R (I.ok.hd hc) hne fun s' p c M k g o hz hp pm pw => ?_
  have hn : H p = none := I.hok.fresh hz
  have lenM : M.length < 64 := by rw [pm.length_eq]; exact R.few
  obtain ⟨h', g', d', t', o'⟩ := s'
  have e1 : g' = s.gens := g
  have e2 : o' = s.os := o
  subst e1 e2
  have hz2 : (M.map fun q => V.ref q.1).length ≤ sizeLine := by rw [List.length_map, sizeLine_eq]; omega
  refine ⟨.ref p, upd H p (.lst (M.map fun q => V.ref q.1)), ?_, rfl, q M p pm pw lenM hn⟩
  exact I.call (ch := []) (h' := h') (g' := s.gens) (d' := d') (t' := t') (Un.laid k hz hn) (I.hok.laid k hz ⟨hz2, _, c, vals_refsM M, hp⟩) I.bare (fun _ z => nomatch z)

def tupI (k : List Int) : D := .tup (k.map D.int)
def tupD : D → Option (List Int)
  | .tup ds => intsD ds
  | _ => none
def tupsD : List D → Option (List (List Int))
  | [] => some []
  | d :: ds => match tupD d, tupsD ds with
    | some k, some ks => some (k :: ks)
    | _, _ => none
theorem tupD_eq {d : D} {k : List Int} (e : tupD d = some k) : d = tupI k := by
  cases d with
  | tup ds => unfold tupI; rw [intsD_eq (show intsD ds = some k from e)]
  | _ => cases e
theorem tupsD_v {K : PySem.W.Frag} {H : Hp} : ∀ {ds : List D} {ks : List (List Int)} {vs : List V}, tupsD ds = some ks → RVs K H ds vs → ∃ rows : List (Addr × List Int), rows.map (·.2) = ks ∧ vs = rows.map (fun p => V.ref p.1) ∧ ∀ p ∈ rows, H p.1 = some (.tup (p.2.map V.int))
  | [], ks, vs, e, r => by cases e; exact ⟨[], rfl, rvs_nil r, fun _ h => nomatch h⟩
  | d :: ds, ks, vs, e, r => by
    obtain ⟨x, xs, e1, r1, r2⟩ := rvs_cons r
    unfold tupsD at e
    cases h1 : tupD d with
    | none => rw [h1] at e; cases e
    | some k =>
      cases h2 : tupsD ds with
      | none => rw [h1, h2] at e; cases e
      | some kr =>
        rw [h1, h2] at e
        cases e
        obtain ⟨rows, q1, q2, q3⟩ := tupsD_v h2 r2
        rw [tupD_eq h1] at r1
        obtain ⟨a, us, e3, s, q⟩ := rv_tup r1
        rw [q.ints] at s
        refine ⟨(a, k) :: rows, by rw [List.map_cons, q1], by rw [List.map_cons, e1, e3, q2], fun p hp => ?_⟩
        rcases List.mem_cons.mp hp with z | z
        · subst z; exact s
        · exact q3 p z
def dSortSet (t : DE) : DE := fun τ h Q => t τ h fun x h1 => match (seqD h1 x).bind tupsD with
  | some ks => (ks.length < 64 ∧ ∀ k ∈ ks, k ≠ []) ∧ ∀ (ms : List (List Int)) (p : Addr), (∀ k, k ∈ ms ↔ k ∈ ks) → ms.Pairwise (fun a b => HT.lexLt a b = true) → h1 p = none → Q (.loc p) (hupd h1 p (.lst (ms.map tupI)))
  | none => False
section
variable {X : Cx} {K : PySem.W.Frag} {e : Expr} {te : TE} {de : DE} {p1 p2 p3 p4 : Pos}
theorem rvs_rows {K : PySem.W.Frag} {H : Hp} : ∀ rows : List (Addr × List Int), (∀ p ∈ rows, H p.1 = some (.tup (p.2.map V.int))) → RVs K H ((rows.map (·.2)).map tupI) (rows.map fun p => V.ref p.1)
  | [], _ => rvs_nil'
  | q :: rows, h => rvs_cons' (rv_tup' (h q List.mem_cons_self) (rvs_ints _)) (rvs_rows rows fun p hp => h p (List.mem_cons_of_mem _ hp))
theorem xsortset (hc : X.calm = true) (hu : X.A.units + 64 < cLine) (he : XE X K e te de) (hm : X.mg "sorted" = none) (hm2 : X.mg "set" = none) (hg : Gl X "sorted" := by rfl) (hg2 : Gl X "set" := by rfl)
    (h1 : starEach [e] X.env = [(false, eval e X.env)] := by rfl) (h2 : starEach [.Call (.Name "set" p3) [e] [] p4] X.env = [(false, eval (.Call (.Name "set" p3) [e] [] p4) X.env)] := by rfl) (hK : X.K = K := by rfl) :
    XE X K (.Call (.Name "sorted" p1) [.Call (.Name "set" p3) [e] [] p4] [] p2) (tCB (rSortSet X.K X.prog X.w) (tCons (tCB (rSetOfT X.K X.prog X.w) (tCons te tNil)) tNil)) (dSortSet de) := by
  subst hK
  refine ⟨pe_callB (cr_sortSet hc) hg hm (by decide +kernel) (pa_cons (pe_callTy (cr_setOfT hc hu) hg2 hm2 (by decide +kernel) (pa_cons he.p pa_nil h1) (he := h1)) pa_nil h2) (he := h2), fun τ σ h H Q Q0 rs hr bw w => he.l τ σ h H _ _ rs hr (fun x h1 v H1 x1 r1 hr1 w1 => ?_) w⟩
  have w1 : (match (seqD h1 x).bind tupsD with | some ks => (ks.length < 64 ∧ ∀ k ∈ ks, k ≠ []) ∧ ∀ (ms : List (List Int)) (p : Addr), (∀ k, k ∈ ms ↔ k ∈ ks) → ms.Pairwise (fun a b => HT.lexLt a b = true) → h1 p = none → Q (.loc p) (hupd h1 p (.lst (ms.map tupI))) | none => False) := w1
  cases z : (seqD h1 x).bind tupsD with
  | none => rw [z] at w1; exact w1.elim
  | some ks =>
    rw [z] at w1
    obtain ⟨⟨w2, w3⟩, w4⟩ := w1
    obtain ⟨xs, z1, z2⟩ := Option.bind_eq_some_iff.mp z
    obtain ⟨l, vs, e1, s, q⟩ := seqD_v hr1 r1 z1
    obtain ⟨rows, q1, q2, q3⟩ := tupsD_v z2 q
    subst e1 q2
    refine ⟨l, rows, rfl, s, fun p hp => .inl (.inl (q3 p hp)), by rw [← List.length_map (f := (·.2)), q1]; exact w2, fun a L ha hL1 hL2 => ?_⟩
    have xa : TX X.K H1 (upd H1 a (SetTO X.prog X.w a L)) := tx_new ha
    have q3' : ∀ p ∈ rows, (upd H1 a (SetTO X.prog X.w a L)) p.1 = some (.tup (p.2.map V.int)) := fun p hp => xa.1 _ _ (q3 p hp)
    refine ⟨a, L, rfl, upd_same, fun p hp => .inl (.inl (q3' p (hL1 p hp))), fun p hp => w3 _ (by rw [← q1]; exact List.mem_map.mpr ⟨p, hL1 p hp, rfl⟩), fun M p pm pw lenM hp => ?_⟩
    have xp : TX X.K (upd H1 a (SetTO X.prog X.w a L)) (upd (upd H1 a (SetTO X.prog X.w a L)) p (.lst (M.map fun q => V.ref q.1))) := tx_new hp
    have hrA : HR X.K (upd H1 a (SetTO X.prog X.w a L)) h1 := hr1.lay ha
    have hM : ∀ q ∈ M, (upd H1 a (SetTO X.prog X.w a L)) q.1 = some (.tup (q.2.map V.int)) := fun q hq => q3' q (hL1 q (pm.mem_iff.mp hq))
    refine bw _ _ _ _ (x1.trans (xa.trans xp)) rv_loc' (hrA.put xp (ro_lst xp (rvs_rows M hM))) (w4 (M.map (·.2)) p (fun k => ?_) (List.pairwise_map.mpr pw) (hrA.free hp))
    rw [← q1]
    constructor
    · intro hk
      obtain ⟨q, hq, e⟩ := List.mem_map.mp hk
      exact List.mem_map.mpr ⟨q, hL1 q (pm.mem_iff.mp hq), e⟩
    · intro hk
      obtain ⟨q, hq, e⟩ := List.mem_map.mp hk
      obtain ⟨r, hr, e2⟩ := List.mem_map.mp (hL2 q hq)
      exact List.mem_map.mpr ⟨r, pm.mem_iff.mpr hr, e2.trans e⟩
end
end DL

set_option Elab.async false
set_option linter.all false
set_option maxRecDepth 100000
/-! DL9: the end of a law's row. -/
namespace DL
open PySem PySem.Spec PyProof.Rows L2

/-- nothing is tracked but the locked script -/
structure OnlyScript (H : Hp) (a : Addr) : Prop where
  at_ : ∀ b, b ≠ a → H b = none
  is_ : H a = none ∨ ∃ o xs, H a = some (.frz o (.lst xs))
section
variable {P : Program} {w : World} {K : PySem.W.Frag} {mg mb : Str → Option Value} {k : Nat} {fa a : Addr} {fd : FuncData} {x : Str} {sp : Sp} {s : Shared} {vs : List Value} {ns : List Int}
theorem env_at {H : Hp} (on : OnlyScript H a) (hK : H a ≠ none → K.lookup a = none) (ok : HOk P w H s.heap) (KX : K.In s.heap) (hns : s.heap.Ns mainGlobals mg) (hb : s.heap.Ns builtinsNs mb) (hbb : ∀ x : Str, x ≠ "__name__" → mb x = bootBuiltins x) (hlim : s.heap.NoLimit)
    (hg : s.gens = #[]) (ha : s.heap.get? a = some { cls := .type "list", data := .seq vs.toArray }) : Env0 P w K mg (hidT s.heap H) callerA [] s H := by
  have free : ∀ {b : Addr} {o : Obj} {es : Array DictEntry} {ep : Nat}, s.heap.get? b = some o → o.data = .dict es ep → H b = none := fun {b o es ep} e d => by
    by_cases z : b = a
    · subst z
      rw [ha] at e; cases e
      exact nomatch (show Data.seq vs.toArray _ = Data.dict es ep from d)
    · exact on.at_ b z
  have ns' : ∀ {b : Addr} {m : Str → Option Value}, s.heap.Ns b m → (hidT s.heap H).Ns b m := fun {b m} ⟨o, es, ep, e, d, r⟩ => ⟨o, es, ep, hidT_get e (free e d), d, r⟩
  have kin : K.In (hidT s.heap H) := fun b o e => hidT_get (KX b o e) (by
    by_cases z : b = a
    · subst z
      cases q : H b with
      | none => rfl
      | some u => rw [hK (by rw [q]; simp)] at e; cases e
    · exact on.at_ b z)
  exact ⟨rfl, ⟨kin, ns' hns, ⟨mb, ns' hb, hbb⟩, let ⟨mc, h1, h2⟩ := hlim; ⟨mc, ns' h1, h2⟩⟩, fun b o e => of_hidT e, Nat.le_of_eq (hidT_size _ _), trivial, (fun b hb => nomatch hb), ok, .of_eq hg⟩
theorem law_at (KX : K.In s.heap) (hns : s.heap.Ns mainGlobals mg) (hb : s.heap.Ns builtinsNs mb) (hbb : ∀ x : Str, x ≠ "__name__" → mb x = bootBuiltins x) (hlim : s.heap.NoLimit) (hg : s.gens = #[])
    (ha : s.heap.get? a = some { cls := .type "list", data := .seq vs.toArray }) (hi : IntsAre vs ns) (hl : ns.length ≤ sizeLine) (hr : RoomG k callerA)
    (F : ∀ base : Heap, K.In base → base.Ns mainGlobals mg → FnG P w K mg base CX0 k fa fd [x] sp) (hbind : ∀ (s : Shared) (u : Value), BindsTo s fd ⟨[u], []⟩ [(x, u)])
    (hsp : ∀ H : Hp, SqF K H a (ns.map V.int) → sp [.ref a] H (fun v _ => v = .bl true) E0) :
    codeAny (model P w) callerA (.call (.ref fa) ⟨[.ref a], []⟩) (fun r s' => r = .ok (.ret (.bool true)) ∧ OldK s.heap s'.heap ∧ s'.os = s.os ∧ AllBare s'.gens) s := by
  have vals := vals_ints hi
  have run : ∀ H : Hp, OnlyScript H a → (H a ≠ none → K.lookup a = none) → HOk P w H s.heap → SqF K H a (ns.map V.int) →
      codeAny (model P w) callerA (.call (.ref fa) ⟨[.ref a], []⟩) (fun r s' => r = .ok (.ret (.bool true)) ∧ OldK s.heap s'.heap ∧ s'.os = s.os ∧ AllBare s'.gens) s := by
    intro H on hK ok sq
    have e0 := env_at on hK ok KX hns hb hbb hlim hg ha
    refine codeAny_mono ((F _ e0.mod.kin e0.mod.glob).run callerA [] s H ⟨[.ref a], []⟩ [.ref a] [.ref a] _ _ hr e0 (hbind s (.ref a)) (.cons rfl .nil) (hsp H sq)) fun r s' q => ?_
    match r, q with
    | .ok (.ret u), ⟨v, H', os, bare, un, ok', rv, ev⟩ =>
      have ev : v = .bl true := ev
      subst ev
      have eu : u = Value.bool true := rv
      subst eu
      refine ⟨rfl, OldK.of_keep fun b o e => ?_, os, bare⟩
      cases hH : H b with
      | none => exact un.keep b o e hH (fun z => (nomatch z)) (fun z => (nomatch z))
      | some u =>
        have hba : b = a := Classical.byContradiction fun z => by rw [on.at_ b z] at hH; cases hH
        subst hba
        rcases on.is_ with z | ⟨ob, xs, z⟩
        · rw [z] at hH; cases hH
        · have e1 := (ok b _ z).1
          have e2 := (ok' b _ (un.frzs b ob _ z)).1
          rw [e] at e1
          rw [e1]; exact e2
  cases hk : K.lookup a with
  | some o =>
    have e := KX a o hk
    rw [ha] at e
    cases e
    exact run (fun _ => none) ⟨fun _ _ => rfl, .inl rfl⟩ (fun z => absurd rfl z) (fun b u z => (nomatch (show (none : Option HO) = some u from z))) (.inr ⟨_, vs.toArray, _, hk, rfl, rfl, rfl, by rw [List.size_toArray, hi.length]; exact hl, by simpa using vals⟩)
  | none =>
    have at_a : (fun b => if b = a then some (HO.frz { cls := .type "list", data := .seq vs.toArray } (.lst (ns.map V.int))) else none) a = some (HO.frz { cls := .type "list", data := .seq vs.toArray } (.lst (ns.map V.int))) := if_pos rfl
    refine run (fun b => if b = a then some (.frz { cls := .type "list", data := .seq vs.toArray } (.lst (ns.map V.int))) else none) ⟨fun b z => if_neg z, .inr ⟨_, _, at_a⟩⟩ (fun _ => hk) (fun b u z => ?_) (.inl ⟨_, at_a⟩)
    by_cases hba : b = a
    · subst hba
      have z := (if_pos rfl).symm.trans z
      cases z
      exact ⟨ha, by rw [List.length_map]; exact hl, vs, _, vals, ha⟩
    · have z := (if_neg hba).symm.trans z
      cases z
end
/-- a law's row, from its reading: on the script's ints it comes to True -/
theorem walkG {l : PySem.W.OpenLaw} {n k m : Nat} {q : Program} {loose : List Str} {XP : (Str → Option Value) → Heap → Prop} {YP : World → Heap → Prop} {d : DefRec} {K : Params → PySem.W.Frag} {x : Str} {b : DS}
    (hn : l.most = some n) (hn2 : n ≤ sizeLine) (hdf : d.params.defaults = []) (hr : RoomG k callerA) (hY : ∀ (w : World) (h : Heap), YP w h → (K w.params).In h)
    (F : ∀ (w : World) (mg : Str → Option Value) (fa : Addr) (h : Heap), (K w.params).In h → h.Ns mainGlobals mg → mg d.name = some (.ref fa) →
      ∃ fd : FuncData, (∀ (s : Shared) (u : Value), BindsTo s fd ⟨[u], []⟩ [(x, u)]) ∧ ∀ base : Heap, (K w.params).In base → base.Ns mainGlobals mg → FnG l.prog w (K w.params) mg base CX0 k fa fd [x] (spD (K w.params) 1 (runD m b)))
    (law : ∀ ns : List Int, ns.length ≤ n → runD m b [.fls (ns.map D.int)] (fun _ => none) fun d _ => d = .bl true) :
    PySem.W.WalkO q loose XP YP l.row.toRowW d [] (fun f vs => PySem.call f vs) := by
  refine Att.attach_call hn hdf fun w s₀ s₁ mg mb fa o pm cd doc a vs ns G Y ho hd hcd hmg hobj hints hlen hg => ?_
  have KX := hY w _ Y
  obtain ⟨fd, hb, hF⟩ := F w mg fa _ KX G.T.g hmg
  refine law_at KX G.T.g G.T.b G.T.builtins G.T.nolimit hg hobj hints (Nat.le_trans hlen hn2) hr hF hb fun H sq => ?_
  exact ⟨rfl, [.fls (ns.map D.int)], fun _ => none, _, rvs_cons' (rv_fls' sq (rvs_ints _)) rvs_nil', (fun a o e => nomatch e), fun d h' v H' _ rv _ e => by subst e; exact rv_bl rv, law ns hlen⟩
end DL

set_option Elab.async false
set_option linter.all false
set_option maxRecDepth 100000
/-! DL10: known defs, short words for the printed derivations. -/
namespace DL
open PySem PySem.Spec PyProof.Rows L2

abbrev dLt : DR2 := dCmp fun i j => decide (i < j)
abbrev dLe : DR2 := dCmp fun i j => decide (i ≤ j)
abbrev dGt : DR2 := dCmp fun i j => decide (j < i)
abbrev dGe : DR2 := dCmp fun i j => decide (j ≤ i)
def dIadd : DR2
  | .int i, .int j, h, Q => Q (.int (i + j)) h
  | _, _, _, _ => False

/-- a def of the module whose reading is known -/
def Known (P : Program) (w : World) (K : PySem.W.Frag) (mg : Str → Option Value) (base : Heap) (x : Str) (k n : Nat) (M : DC) : Prop :=
  ∃ (f : Addr) (fd : FuncData) (ps : List Str), FnG P w K mg base CX0 k f fd ps (spD K n M) ∧ mg x = some (.ref f) ∧ PySem.W.keepIn K (.ref f) = true ∧ Binds K fd ps []
theorem known_of {P : Program} {w : World} {K : PySem.W.Frag} {mg : Str → Option Value} {base : Heap} {x qual : Str} {st : Stmt} {f : Addr} {fd : FuncData} {ps : List Str} {k n : Nat} {M : DC} (F : Fun K x qual st f fd) (hm : mg x = some (.ref f)) (G : FnG P w K mg base CX0 k f fd ps (spD K n M)) (b : Binds K fd ps []) :
    Known P w K mg base x k n M := ⟨f, fd, ps, G, hm, F.kp, b⟩
section
variable {X : Cx} {K : PySem.W.Frag} {x : Str} {k n : Nat} {M : DC} {p pos : Pos} {e : Expr} {es : List Expr} {ta : TA} {da : DA}
theorem xkn (G : Known X.prog X.w X.K X.mg X.base x k n M) (hr : RoomG k X.A) (ha : XA X K (e :: es) ta da) (hg : Gl X x := by rfl) (hK : X.K = K := by rfl)
    (hdb : (x == ("__debug__" : Str)) = false := by decide) (he : starEach (e :: es) X.env = (false, eval e X.env) :: starEach es X.env := by rfl) (hpl : (backTo pos (starEach es X.env)).any (·.1) = false := by rfl) :
    XE X K (.Call (.Name x p) (e :: es) [] pos) (tCall (spD K n M) [] E0 ta) (dCall n M da) := by
  obtain ⟨f, fd, ps, F, hm, hk, hb⟩ := G
  exact xcall F hr hm hk hb pass0 ha hg hdb he hpl hK
theorem xkn0 (G : Known X.prog X.w X.K X.mg X.base x k n M) (hr : RoomG k X.A) (hg : Gl X x := by rfl) (hdb : (x == ("__debug__" : Str)) = false := by decide) (hK : X.K = K := by rfl) :
    XE X K (.Call (.Name x p) [] [] pos) (tCall (spD K n M) [] E0 tNil) (dCall n M dNil) := by
  obtain ⟨f, fd, ps, F, hm, hk, hb⟩ := G
  exact xcall0 F hr hm hk hb pass0 hg hdb hK
/-- constants of the module -/
theorem xgi {i : Int} (c : ∃ t, X.mg x = some (.int i t)) (hg : Gl X x := by rfl) (hd : (x == ("__debug__" : Str)) = false := by decide) : XE X K (.Name x pos) (tC (.int i)) (dC (.int i)) := by
  obtain ⟨t, h⟩ := c
  exact xglob h ⟨t, rfl⟩ (fun _ => rv_int') hg hd
theorem xgs {i : Str} (c : ∃ t, X.mg x = some (.str i t)) (hg : Gl X x := by rfl) (hd : (x == ("__debug__" : Str)) = false := by decide) : XE X K (.Name x pos) (tC (.str i)) (dC (.str i)) := by
  obtain ⟨t, h⟩ := c
  exact xglob h ⟨t, rfl⟩ (fun _ => rv_str') hg hd
theorem q_iadd : OpR X (inplaceOp .Add) (rI0 fun i j => .int (i + j)) ∧ LR2 K (rI0 fun i j => .int (i + j)) dIadd := ⟨iop_add, lrI0 fun x y h Q w => by
  cases x <;> cases y <;> first | exact w.elim | exact ⟨_, _, rfl, rfl, w⟩⟩
variable {a b c : Expr} {tb tc td : TE} {db dc dd : DE}
theorem le_chain {K : PySem.W.Frag} {r r' : R2} {q q' : DR2} (l1 : LR2 K r q) (l2 : LR2 K r' q') (la : LE K tb db) (lb : LE K tc dc) (lc : LE K td dd) : LE K (tChain r r' tb tc td) (dChain q q' db dc dd) := fun τ σ h H Q Q0 rs hr bw w =>
  la τ σ h H _ _ rs hr (fun x h1 v H1 x1 r1 hr1 w1 => lb τ σ h1 H1 _ _ (rs.mono x1) hr1 (fun y h2 u H2 x2 r2 hr2 w2 => l1 x y v u h2 H2 _ _ (RV.mono x2 _ _ r1) r2 hr2 (fun z h3 zv H3 x3 r3 hr3 w3 => by
    cases z with
    | bl k =>
      refine ⟨k, rv_bl r3, ?_⟩
      cases k with
      | true => have w3 := kt w3; exact lc τ σ h3 H3 _ _ (rs.mono (x1.trans (x2.trans x3))) hr3 (fun w4 h4 wv H4 x4 r4 hr4 w5 => l2 y w4 u wv h4 H4 Q Q0 (RV.mono (x3.trans x4) _ _ r2) r4 hr4 (bw.mono (x1.trans (x2.trans (x3.trans x4)))) w5) w3
      | false => have w3 := kf w3; exact bw _ h3 _ H3 (x1.trans (x2.trans x3)) rv_bl' hr3 w3
    | _ => exact w3.elim) w2) w1) w
theorem xchain {op op' : CmpOp} {r r' : R2} {q q' : DR2} (o : OpR X (compareOp op) r ∧ LR2 K r q) (o' : OpR X (compareOp op') r' ∧ LR2 K r' q') (ha : XE X K a tb db) (hb : XE X K b tc dc) (hc : XE X K c td dd)
    (hm : lastMarks [op, op'] [b, c] = false := by with_unfolding_all rfl) : XE X K (.Compare a [op, op'] [b, c] pos) (tChain r r' tb tc td) (dChain q q' db dc dd) := ⟨pe_chain o.1 o'.1 ha.p hb.p hc.p hm, le_chain o.2 o'.2 ha.l hb.l hc.l⟩
theorem xtchain {op op' : CmpOp} {r r' : R2} {q q' : DR2} (o : OpR X (compareOp op) r ∧ LR2 K r q) (o' : OpR X (compareOp op') r' ∧ LR2 K r' q') (ha : XE X K a tb db) (hb : XE X K b tc dc) (hc : XE X K c td dd)
    (hm : lastMarks [op, op'] [b, c] = false := by with_unfolding_all rfl) : XT X K (.Compare a [op, op'] [b, c] pos) (tTest (tChain r r' tb tc td)) (dTest (dChain q q' db dc dd)) := ⟨pt_chain o.1 o'.1 ha.p hb.p hc.p hm, lt_test (le_chain o.2 o'.2 ha.l hb.l hc.l)⟩
theorem xappend {o e : Expr} {to te : TE} {d1 de : DE} {apos cpos : Pos} (ho : XE X K o to d1) (he : XE X K e te de)
    (hbase : attributeBase o "append" X.env (eval o X.env) = eval o X.env := by rfl)
    (hfew : ((backTo cpos (starEach [e] X.env)).all (fun x => !x.1) && (backToKw cpos (keywordEach [] X.env)).all (fun x => x.1.isSome)
      && decide ([e].length + ([] : List Keyword).length + (if ([] : List Keyword).isEmpty then 0 else 1) < 30)) = true := by rfl)
    (hline : (apos.endLine == cpos.line) = true := by rfl) (hs : starEach [e] X.env = (false, eval e X.env) :: starEach [] X.env := by rfl) (hplain : (backTo cpos (starEach [] X.env)).any (·.1) = false := by rfl) (hK : X.K = K := by rfl) :
    XE X K (.Call (.Attribute o "append" apos) [e] [] cpos) (tBM K "list" rAppend to (tCons te tNil)) (dAppend d1 de) :=
  ⟨by subst hK; exact pe_bm PySem.F.plainAttrs_list PySem.F.slot_list_append PySem.F.type_list_append mt_append ho.p (pa_cons he.p pa_nil hs) hbase hfew hline hs hplain, lm_append ho.l he.l⟩
end
theorem mono_tup {K : PySem.W.Frag} {n : Nat} {r : TGs} (m : ∀ v σ H (Q Q' : L2.St → Hp → Prop), (∀ s h, Q s h → Q' s h) → r v σ H Q → r v σ H Q') : ∀ v σ H (Q Q' : L2.St → Hp → Prop), (∀ s h, Q s h → Q' s h) → gTup K n r v σ H Q → gTup K n r v σ H Q' := fun v σ H Q Q' k ⟨a, xs, e, s, l, w⟩ => ⟨a, xs, e, s, l, m _ _ _ _ _ k w⟩
theorem monos_nil : ∀ v σ H (Q Q' : L2.St → Hp → Prop), (∀ s h, Q s h → Q' s h) → gNil v σ H Q → gNil v σ H Q' := fun v σ H Q Q' k w => ⟨w.1, k _ _ w.2⟩
theorem monos_cons {g : TG} {r : TGs} (m1 : ∀ v σ H (Q Q' : L2.St → Hp → Prop), (∀ s h, Q s h → Q' s h) → g v σ H Q → g v σ H Q') (m2 : ∀ v σ H (Q Q' : L2.St → Hp → Prop), (∀ s h, Q s h → Q' s h) → r v σ H Q → r v σ H Q') :
    ∀ v σ H (Q Q' : L2.St → Hp → Prop), (∀ s h, Q s h → Q' s h) → gCons g r v σ H Q → gCons g r v σ H Q' := fun v σ H Q Q' k ⟨x, xs, e, w⟩ => ⟨x, xs, e, m1 _ _ _ _ _ (fun s h w' => m2 _ _ _ _ _ k w') w⟩
end DL

set_option Elab.async false
set_option linter.all false
set_option maxRecDepth 100000
/-! DL11: words that stand still while a reading is stepped through; rules for loops; the bag. -/
namespace DL
open PySem PySem.Spec PyProof.Rows L2

@[irreducible] noncomputable def kFor : DI → DTG → DS → DS := hide dFor
@[irreducible] noncomputable def kWhile : DT → DS → DS := hide dWhile
@[irreducible] noncomputable def kLc : DI → DTG → DT → DE → List Nat → DE := hide dLc
@[irreducible] noncomputable def kLoop : (DH → Prop) → DTG → DS → DEnds → List D → DSt → DH → Prop := hide dLoop
@[irreducible] noncomputable def kGo : (DH → Prop) → DTG → DT → DE → Addr → DSt → DK → List D → DH → Prop := hide dLcGo
def dEqU (neg : Bool) : DR2 := fun x y h Q => dEq neg x y h Q ∨ ∃ s t : Str, x = .str s ∧ y = .str t ∧ Q (.bl (if neg then !decide (s = t) else decide (s = t))) h
@[irreducible] noncomputable def kEq : Bool → DR2 := hide dEqU
theorem kFor_eq {di g tb} : kFor di g tb = dFor di g tb := by unfold kFor; rw [hide_eq]
theorem kWhile_eq {c t} : kWhile c t = dWhile c t := by unfold kWhile; rw [hide_eq]
theorem kLc_eq {di g tt te vs} : kLc di g tt te vs = dLc di g tt te vs := by unfold kLc; rw [hide_eq]
theorem kLoop_eq {G g tb N items τ h} : kLoop G g tb N items τ h = dLoop G g tb N items τ h := by unfold kLoop; rw [hide_eq]
theorem kGo_eq {G g tt te p τ Q items h} : kGo G g tt te p τ Q items h = dLcGo G g tt te p τ Q items h := by unfold kGo; rw [hide_eq]
theorem kEq_eq {neg} : kEq neg = dEqU neg := by unfold kEq; rw [hide_eq]
section
variable {X : Cx} {K : PySem.W.Frag}
theorem dec_strV {s t : Str} : decide (V.str s = V.str t) = decide (s = t) := by simp
theorem qk_eq (hu : X.A.units + 64 < cLine) (hK : X.K = K := by rfl) : OpR X (compareOp .Eq) (fun x y H Q => rEqD K x y H Q ∨ rEq x y H Q) ∧ LR2 K (fun x y H Q => rEqD K x y H Q ∨ rEq x y H Q) (kEq false) := by
  rw [kEq_eq]
  refine ⟨(q_eq hu hK).1.or op_eq, fun d e x y h H Q Q0 r1 r2 hr bw w => ?_⟩
  rcases w with w | ⟨s, t, e1, e2, w⟩
  · exact .inl ((q_eq (X := X) hu hK).2 d e x y h H Q Q0 r1 r2 hr bw w)
  · subst e1 e2
    rw [rv_str r1, rv_str r2]
    refine .inr ⟨rfl, ?_⟩
    rw [dec_strV]
    exact bw _ h _ H TX.refl rv_bl' hr w
theorem qk_ne (hu : X.A.units + 64 < cLine) (hK : X.K = K := by rfl) : OpR X (compareOp .NotEq) (fun x y H Q => rNeD K x y H Q ∨ rNe x y H Q) ∧ LR2 K (fun x y H Q => rNeD K x y H Q ∨ rNe x y H Q) (kEq true) := by
  rw [kEq_eq]
  refine ⟨(q_ne hu hK).1.or op_ne, fun d e x y h H Q Q0 r1 r2 hr bw w => ?_⟩
  rcases w with w | ⟨s, t, e1, e2, w⟩
  · exact .inl ((q_ne (X := X) hu hK).2 d e x y h H Q Q0 r1 r2 hr bw w)
  · subst e1 e2
    rw [rv_str r1, rv_str r2]
    refine .inr ⟨rfl, ?_⟩
    rw [dec_strV]
    exact bw _ h _ H TX.refl rv_bl' hr w
theorem xs_kfor {tg iter : Expr} {body : List Stmt} {w0 : TI} {di : DI} {g0 : TG} {g : DTG} {t0 : TS} {t : DS} {pos : Pos} (hp : PassesOwn (model X.prog X.w) X.A X.env X.xe) (hc : X.calm = true) (hi : XI X K tg iter w0 di) (hg : XG X K tg g0 g) (hb : XSs X K body t0 t)
    (hs : ∀ x, foldedSetIterable iter X.env x = pure x := by intro _; rfl) : XS X K (.For tg iter body [] pos) (tFor w0 g0 t0) (kFor di g t) := by rw [kFor_eq]; exact xs_for hp hc hi hg hb hs
theorem xs_kwhile {c : Expr} {body : List Stmt} {c0 : TT} {dc : DT} {t0 : TS} {t : DS} {pos : Pos} (hp : PassesOwn (model X.prog X.w) X.A X.env X.xe) (hc : XT X K c c0 dc) (hb : XSs X K body t0 t) : XS X K (.While c body [] pos) (tWhile c0 t0) (kWhile dc t) := by rw [kWhile_eq]; exact xs_while hp hc hb
theorem xklc {elt tg iter : Expr} {ifs : List Expr} {scope : Scope} {own : List (Str × Nat)} {pos : Pos} {w0 : TI} {di : DI} {g0 : TG} {g : DTG} {t0 : TT} {tt : DT} {e0 : TE} {te : DE} (hc : X.calm = true) (hN : X.N.Nodup) (hi : XI X K tg iter w0 di) (ok : BlkOk X.N X.env.scope scope own)
    (hg : ∀ (s : Shared) (H : Hp) (C : Addr) (cl : List (Str × Addr)) (fp : List Addr), XG (X.blk s H scope (compEnvC scope cl C X.env) fp) K tg g0 g) (ho : Own (own.map (·.2)) g0) (ht : ∀ (s : Shared) (H : Hp) (C : Addr) (cl : List (Str × Addr)) (fp : List Addr), XTs (X.blk s H scope (compEnvC scope cl C X.env) fp) K ifs t0 tt) (he : ∀ (s : Shared) (H : Hp) (C : Addr) (cl : List (Str × Addr)) (fp : List Addr), XE (X.blk s H scope (compEnvC scope cl C X.env) fp) K elt e0 te) (hs : ∀ x, foldedSetIterable iter X.env x = pure x := by intro _; rfl) :
    XE X K (.ListComp elt [⟨tg, iter, ifs, 0⟩] scope pos) (tLc w0 g0 t0 e0 (own.map (·.2))) (kLc di g tt te (own.map (·.2))) := by rw [kLc_eq]; exact xlc hc hN hi ok hg ho ht he hs
theorem xs_ksetLc {i : Nat} {y : Str} {py : Pos} {elt tg iter : Expr} {ifs : List Expr} {scope : Scope} {own : List (Str × Nat)} {pos spos : Pos} {w0 : TI} {di : DI} {g0 : TG} {g : DTG} {t0 : TT} {tt : DT} {e0 : TE} {te : DE} (hc : X.calm = true) (hN : X.N.Nodup)
    (hi : XI X K tg iter w0 di) (ok : BlkOk X.N X.env.scope scope own) (hg : ∀ (s : Shared) (H : Hp) (C : Addr) (cl : List (Str × Addr)) (fp : List Addr), XG (X.blk s H scope (compEnvC scope cl C X.env) fp) K tg g0 g) (ho : Own (own.map (·.2)) g0) (ht : ∀ (s : Shared) (H : Hp) (C : Addr) (cl : List (Str × Addr)) (fp : List Addr), XTs (X.blk s H scope (compEnvC scope cl C X.env) fp) K ifs t0 tt) (he : ∀ (s : Shared) (H : Hp) (C : Addr) (cl : List (Str × Addr)) (fp : List Addr), XE (X.blk s H scope (compEnvC scope cl C X.env) fp) K elt e0 te)
    (hy : X.N[i]? = some y := by rfl) (hyl : X.env.scope.names.lookup y = some .local := by rfl)
    (hsw : swapsWith (.ListComp elt [⟨tg, iter, ifs, 0⟩] scope pos) (some (.Name y py)) spos.line X.env = pure true := by exact sw_true rfl rfl rfl (by decide +kernel)) (hs : ∀ x, foldedSetIterable iter X.env x = pure x := by intro _; rfl) :
    XS X K (.Assign [.Name y py] (.ListComp elt [⟨tg, iter, ifs, 0⟩] scope pos) spos) (tAsg (tLc w0 g0 t0 e0 (own.map (·.2))) (gName i)) (dAsg (kLc di g tt te (own.map (·.2))) (gdName i)) := by rw [kLc_eq]; exact xs_setLc hc hN hi ok hg ho ht he hy hyl hsw hs
end

/-! ### stepping -/
theorem w_need {o : Option D} {v : D} {h : DH} {Q : DK} (e : o = some v) (k : Q v h) : need o h Q := by rw [need_eq]; subst e; exact k
theorem w_set {a : Addr} {y v : D} {u : DO} {h : DH} {Q : DH → Prop} (e : setO (h a) y v = some u) (k : Q (hupd h a u)) : dSet (.loc a) y v h Q := by rw [dSet_eq]; unfold dSet0; dsimp only; rw [e]; exact k
theorem w_ite {c : Prop} [Decidable c] {a b : Prop} (h1 : c → a) (h2 : ¬ c → b) : kIte (decide c) a b := by
  rw [kIte_eq]
  by_cases q : c
  · rw [if_pos (decide_eq_true q)]; exact h1 q
  · rw [if_neg (by simp [q])]; exact h2 q
theorem w_iteb {c : Bool} {a b : Prop} (h1 : c = true → a) (h2 : c = false → b) : kIte c a b := by
  rw [kIte_eq]
  cases c with
  | true => rw [if_pos rfl]; exact h1 rfl
  | false => rw [if_neg Bool.false_ne_true]; exact h2 rfl
theorem w_t {c : Bool} {a b : Prop} (e : c = true) (h : a) : kIte c a b := by rw [kIte_eq]; rw [if_pos e]; exact h
theorem w_f {c : Bool} {a b : Prop} (e : c = false) (h : b) : kIte c a b := by rw [kIte_eq]; rw [if_neg (by simp [e])]; exact h
theorem w_ix {a : Addr} {xs : List D} {y v : D} {h : DH} {Q : DK} (e : h a = some (.lst xs)) (g : getI xs y = some v) (k : Q v h) : need (ixD h (.loc a) y) h Q := w_need (by show getO (h a) y = some v; rw [e]; exact g) k
theorem w_setL {a : Addr} {xs : List D} {y v : D} {u : DO} {h : DH} {Q : DH → Prop} (e : h a = some (.lst xs)) (g : setI xs v y = some u) (k : Q (hupd h a u)) : dSet (.loc a) y v h Q := w_set (by rw [e]; exact g) k
theorem w_for {di : DI} {g : DTG} {tb : DS} {N : DEnds} {τ : DSt} {h : DH} (k : di τ h fun items G h1 => kLoop G g tb N items τ h1) : kFor di g tb N τ h := by
  rw [kFor_eq]
  have e : (fun items G h1 => kLoop G g tb N items τ h1) = fun items G h1 => dLoop G g tb N items τ h1 := by funext a b c; exact kLoop_eq
  rw [e] at k
  exact k
theorem w_lc {di : DI} {g : DTG} {tt : DT} {te : DE} {vs : List Nat} {Q : DK} {τ : DSt} {h : DH} (k : di τ h fun items G h1 => ∀ p, h1 p = none → kGo G g tt te p (wipeD τ vs) Q items (hupd h1 p (.lst []))) : kLc di g tt te vs τ h Q := by
  rw [kLc_eq]
  have e : (fun (items : List D) (G : DH → Prop) (h1 : DH) => ∀ p, h1 p = none → kGo G g tt te p (wipeD τ vs) Q items (hupd h1 p (.lst []))) = fun items G h1 => ∀ p, h1 p = none → dLcGo G g tt te p (wipeD τ vs) Q items (hupd h1 p (.lst [])) := by
    funext a b c
    exact propext ⟨fun q p hp => kGo_eq ▸ q p hp, fun q p hp => kGo_eq.symm ▸ q p hp⟩
  rw [e] at k
  exact k
/-- a loop, by what holds ahead of each turn -/
theorem w_loop {G : DH → Prop} {g : DTG} {tb : DS} {N : DEnds} {items : List D} {τ : DSt} {h : DH} (I : Nat → DSt → DH → Prop) (h0 : I 0 τ h) (hG : ∀ i τ h, i ≤ items.length → I i τ h → G h)
    (step : ∀ i d τ h (nx : DSt → DH → Prop), items[i]? = some d → I i τ h → (∀ τ2 h2, I (i + 1) τ2 h2 → nx τ2 h2) → g d τ h fun τ1 h1 => tb { N with nx := nx, ct := nx, bk := N.nx } τ1 h1)
    (last : ∀ τ h, I items.length τ h → N.nx τ h) : kLoop G g tb N items τ h := by
  rw [kLoop_eq]
  have key : ∀ (rest done : List D), done ++ rest = items → ∀ τ h, I done.length τ h → dLoop G g tb N rest τ h := by
    intro rest
    induction rest with
    | nil =>
      intro done e τ h hi
      rw [List.append_nil] at e
      subst e
      exact ⟨hG _ _ _ (Nat.le_refl _) hi, last _ _ hi⟩
    | cons d ds ih =>
      intro done e τ h hi
      subst e
      refine ⟨hG _ _ _ (by simp) hi, ?_⟩
      have nx : ∀ τ2 h2, I (done.length + 1) τ2 h2 → dLoop G g tb N ds τ2 h2 := fun τ2 h2 q => ih (done ++ [d]) (by simp) τ2 h2 (by simpa using q)
      exact step done.length d τ h (dLoop G g tb N ds) (by simp) hi nx
  exact key items [] rfl τ h h0
theorem rangeD_get {lo : Int} {n i : Nat} {d : D} (e : (rangeD lo n)[i]? = some d) : i < n ∧ d = .int (lo + i) := by
  unfold rangeD at e
  rw [List.getElem?_map] at e
  cases z : (List.range n)[i]? with
  | none => rw [z] at e; cases e
  | some j =>
    rw [z] at e
    obtain ⟨hl, e2⟩ := List.getElem?_eq_some_iff.mp z
    rw [List.length_range] at hl
    rw [List.getElem_range] at e2
    subst e2
    exact ⟨hl, (Option.some.inj e).symm⟩
theorem rangeD_length {lo : Int} {n : Nat} : (rangeD lo n).length = n := by simp [rangeD]
theorem w_range {g : DTG} {tb : DS} {N : DEnds} {lo : Int} {n : Nat} {τ : DSt} {h : DH} (I : Nat → DSt → DH → Prop) (h0 : I 0 τ h)
    (step : ∀ i τ h (nx : DSt → DH → Prop), i < n → I i τ h → (∀ τ2 h2, I (i + 1) τ2 h2 → nx τ2 h2) → g (.int (lo + i)) τ h fun τ1 h1 => tb { N with nx := nx, ct := nx, bk := N.nx } τ1 h1)
    (last : ∀ τ h, I n τ h → N.nx τ h) : kLoop (fun _ => True) g tb N (rangeD lo n) τ h := by
  refine w_loop I h0 (fun _ _ _ _ _ => trivial) (fun i d τ h nx e q k => ?_) (fun τ h q => last τ h (by rwa [rangeD_length] at q))
  obtain ⟨hi, e2⟩ := rangeD_get e
  subst e2
  exact step i τ h nx hi q k
def kPush0 (p : Addr) (C : DH → Prop) (y : D) (h : DH) : Prop := match lstO (h p) with
  | some acc => acc.length < sizeLine ∧ C (hupd h p (.lst (acc ++ [y])))
  | none => False
@[irreducible] noncomputable def kPush : Addr → (DH → Prop) → D → DH → Prop := hide kPush0
theorem kPush_eq {p : Addr} {C : DH → Prop} {y : D} {h : DH} : kPush p C y h = kPush0 p C y h := by unfold kPush; rw [hide_eq]
theorem w_push {p : Addr} {C : DH → Prop} {y : D} {h : DH} {acc : List D} (e : h p = some (.lst acc)) (l : acc.length < sizeLine) (k : C (hupd h p (.lst (acc ++ [y])))) : kPush p C y h := by rw [kPush_eq]; unfold kPush0; rw [e]; exact ⟨l, k⟩
/-- a comprehension, by what holds ahead of each turn -/
theorem w_go {G : DH → Prop} {g : DTG} {tt : DT} {te : DE} {p : Addr} {τ : DSt} {Q : DK} {items : List D} {h : DH} (I : Nat → DH → Prop) (h0 : I 0 h) (hG : ∀ i h, i ≤ items.length → I i h → G h)
    (step : ∀ i d h (C : DH → Prop), items[i]? = some d → I i h → (∀ h2, I (i + 1) h2 → C h2) → g d τ h fun τ2 h2 => tt τ2 h2 fun b h3 => kIte b (te τ2 h3 fun y h4 => kPush p C y h4) (C h3))
    (last : ∀ h, I items.length h → Q (.loc p) h) : kGo G g tt te p τ Q items h := by
  rw [kGo_eq]
  have key : ∀ (rest done : List D), done ++ rest = items → ∀ h, I done.length h → dLcGo G g tt te p τ Q rest h := by
    intro rest
    induction rest with
    | nil =>
      intro done e h hi
      rw [List.append_nil] at e
      subst e
      exact ⟨hG _ _ (Nat.le_refl _) hi, last _ hi⟩
    | cons d ds ih =>
      intro done e h hi
      subst e
      refine ⟨hG _ _ (by simp) hi, ?_⟩
      have nx : ∀ h2, I (done.length + 1) h2 → dLcGo G g tt te p τ Q ds h2 := fun h2 q => ih (done ++ [d]) (by simp) h2 (by simpa using q)
      have a := step done.length d h (fun h2 => dLcGo G g tt te p τ Q ds h2) (by simp) hi nx
      have e : (fun y h4 => kPush p (fun h2 => dLcGo G g tt te p τ Q ds h2) y h4) = fun y h4 => (match lstO (h4 p) with | some acc => acc.length < sizeLine ∧ dLcGo G g tt te p τ Q ds (hupd h4 p (.lst (acc ++ [y]))) | none => False) := by
        funext y h4
        rw [kPush_eq]
        rfl
      rw [e] at a
      exact a
  exact key items [] rfl h h0

/-! ### sorted(set(..)) of tuples of ints -/
def kSort0 (o : Option (List (List Int))) (h : DH) (Q : DK) : Prop := match o with
  | some ks => (ks.length < 64 ∧ ∀ k ∈ ks, k ≠ []) ∧ ∀ (ms : List (List Int)) (p : Addr), (∀ k, k ∈ ms ↔ k ∈ ks) → ms.Pairwise (fun a b => HT.lexLt a b = true) → h p = none → Q (.loc p) (hupd h p (.lst (ms.map tupI)))
  | none => False
@[irreducible] noncomputable def kSort : Option (List (List Int)) → DH → DK → Prop := hide kSort0
theorem kSort_eq {o : Option (List (List Int))} {h : DH} {Q : DK} : kSort o h Q = kSort0 o h Q := by unfold kSort; rw [hide_eq]
noncomputable def kSortSet (t : DE) : DE := fun τ h Q => t τ h fun x h1 => kSort ((seqD h1 x).bind tupsD) h1 Q
theorem kSortSet_eq {t : DE} : kSortSet t = dSortSet t := by
  funext τ h Q
  unfold kSortSet dSortSet
  have e : (fun (x : D) (h1 : DH) => kSort ((seqD h1 x).bind tupsD) h1 Q) = fun x h1 => kSort0 ((seqD h1 x).bind tupsD) h1 Q := by funext x h1; rw [kSort_eq]
  rw [e]
  rfl
theorem xksortset {X : Cx} {K : PySem.W.Frag} {e : Expr} {te : TE} {de : DE} {p1 p2 p3 p4 : Pos} (hc : X.calm = true) (hu : X.A.units + 64 < cLine) (he : XE X K e te de) (hm : X.mg "sorted" = none) (hm2 : X.mg "set" = none) (hg : Gl X "sorted" := by rfl) (hg2 : Gl X "set" := by rfl)
    (h1 : starEach [e] X.env = [(false, eval e X.env)] := by rfl) (h2 : starEach [.Call (.Name "set" p3) [e] [] p4] X.env = [(false, eval (.Call (.Name "set" p3) [e] [] p4) X.env)] := by rfl) (hK : X.K = K := by rfl) :
    XE X K (.Call (.Name "sorted" p1) [.Call (.Name "set" p3) [e] [] p4] [] p2) (tCB (rSortSet X.K X.prog X.w) (tCons (tCB (rSetOfT X.K X.prog X.w) (tCons te tNil)) tNil)) (kSortSet de) := by rw [kSortSet_eq]; exact xsortset hc hu he hm hm2 hg hg2 h1 h2 hK
theorem w_sortset {o : Option (List (List Int))} {ks : List (List Int)} {h : DH} {Q : DK} (e : o = some ks) (h1 : ks.length < 64 ∧ ∀ k ∈ ks, k ≠ []) (k : ∀ (ms : List (List Int)) (p : Addr) (h' : DH), (∀ k, k ∈ ms ↔ k ∈ ks) → ms.Pairwise (fun a b => HT.lexLt a b = true) → h p = none → Ext h h' → h' p = some (.lst (ms.map tupI)) → Q (.loc p) h') : kSort o h Q := by
  subst e; rw [kSort_eq]; exact ⟨h1, fun ms p a b c => k ms p _ a b c (ext_new c) hupd_same⟩
theorem seq_of {h : DH} {p : Addr} {xs : List D} (e : h p = some (.lst xs)) : seqD h (.loc p) = some xs := by show lstO (h p) = _; rw [e]; rfl
theorem tup_of {h : DH} {p : Addr} {xs : List D} (e : h p = some (.lst xs)) : (isTup (.loc p)).or (seqD h (.loc p)) = some xs := by show lstO (h p) = _; rw [e]; rfl
theorem newAt {h h' : DH} {p : Addr} {o : DO} (hh : hupd h p o = h') (hp : h p = none) : Ext h h' ∧ h' p = some o := by subst hh; exact ⟨ext_new hp, hupd_same⟩
/-! ### equal data -/
theorem w_eqi {neg : Bool} {i j : Int} {h : DH} {Q : DK} (k : Q (.bl (if neg then !decide (i = j) else decide (i = j))) h) : kEq neg (.int i) (.int j) h Q := by
  rw [kEq_eq]
  refine .inl ⟨_, _, .int i, .int j, rfl, rfl, ?_⟩
  have e : PyData.eqv (.int i) (.int j) = decide (i = j) := by
    simp [PyData.eqv]
    rfl
  rw [e]
  exact k
theorem w_eqs {neg : Bool} {i j : Str} {h : DH} {Q : DK} (k : Q (.bl (if neg then !decide (i = j) else decide (i = j))) h) : kEq neg (.str i) (.str j) h Q := by
  rw [kEq_eq]
  exact .inr ⟨i, j, rfl, rfl, k⟩
theorem w_eqd {neg : Bool} {x y : D} {h : DH} {Q : DK} {p q : PyData} (h1 : PD h x p) (h2 : PD h y q) (s1 : SeqAt.shaped p = true) (s2 : SeqAt.shaped q = true) (k : Q (.bl (if neg then !PyData.eqv p q else PyData.eqv p q)) h) : kEq neg x y h Q := by
  rw [kEq_eq]
  exact .inl ⟨p, q, h1, h2, s1, s2, k⟩

/-! ### repr -/
def okI (i : Int) : Prop := i.natAbs < 10 ^ 100
theorem leaf_int {i : Int} (h : okI i) : PyData.leavesShort 101 (.int i) = true := by
  have e := int_text_length_le10 (k := 100) (by decide) h
  simp only [PyData.leavesShort, decide_eq_true_eq]
  show (Str.ofString (toString i)).length ≤ 101
  rw [PySem.ofString_length]; exact e
theorem show_int {i : Int} (h : okI i) : PyData.showable (.int i) = true := by
  simp only [PyData.showable, decide_eq_true_eq]
  by_cases z : i.natAbs = 0
  · rw [z]; decide
  · exact (Nat.log2_lt z).mpr (Nat.lt_trans h (by decide +kernel))
@[irreducible] noncomputable def kRepr : DC := hide bRepr
theorem kRepr_eq : kRepr = bRepr := by unfold kRepr; rw [hide_eq]
theorem qk_repr {X : Cx} {K : PySem.W.Frag} {k : Nat} (hr : RoomG k X.A) (hK : X.K = K := by rfl) : CallR X (.builtin "repr") (rRepr K) ∧ LC K (rRepr K) kRepr := by rw [kRepr_eq]; exact q_repr hr hK
theorem w_repr {d : D} {h : DH} {Q : DK} {p : PyData} (pd : PD h d p) (a : p.showable = true) (dp : p.depth ≤ 50) (l : p.leavesShort 101 = true) (bk : p.bulk ≤ 150000) (k : Q (.str p.shown) h) : kRepr [d] h Q := by
  rw [kRepr_eq]
  refine ⟨p, pd, a, dp, ?_, k⟩
  have := PyData.shown_le_bulk 101 (by decide) p l
  have e : sizeLine = 16777216 := rfl
  omega
/-! ### small facts -/
theorem mulR {i j : Int} (h1 : -(2 ^ 64) < j) (h2 : j < 2 ^ 64) : MulOk i j := .inr (.inl ⟨h1, h2⟩)
theorem mulL {i j : Int} (h1 : -(2 ^ 64) < i) (h2 : i < 2 ^ 64) : MulOk i j := .inl ⟨h1, h2⟩
theorem divOk {j : Int} (h1 : 0 < j) (h2 : j < 2 ^ 250) : DivOk j := ⟨h1, h2⟩
end DL

set_option Elab.async false
set_option linter.all false
set_option maxRecDepth 100000
/-! DL12: while, list.index. -/
namespace DL
open PySem PySem.Spec PyProof.Rows L2
/-- a while loop: I n holds ahead of each test, and n falls -/
theorem w_while {c : DT} {t : DS} {N : DEnds} {τ : DSt} {h : DH} (I : Nat → DSt → DH → Prop) {n0 : Nat} (h0 : I n0 τ h)
    (step : ∀ n τ h (nx : DSt → DH → Prop), I n τ h → (∀ m τ2 h2, m < n → I m τ2 h2 → nx τ2 h2) → c τ h fun b h1 => kIte b (t { N with nx := nx, ct := nx, bk := N.nx } τ h1) (N.nx τ h1)) : kWhile c t N τ h := by
  rw [kWhile_eq]
  refine ⟨n0 + 1, ?_⟩
  have key : ∀ M n τ h, n < M → I n τ h → dWh c t N M τ h := by
    intro M
    induction M with
    | zero => intro n τ h hn _; exact absurd hn (Nat.not_lt_zero _)
    | succ M ih =>
      intro n τ h hn hI
      exact step n τ h (dWh c t N M) hI fun m τ2 h2 hm hI2 => ih m τ2 h2 (by omega) hI2
  exact key (n0 + 1) n0 τ h (Nat.lt_succ_self _) h0

theorem RoomG.hu5 {k : Nat} {A : Around} (r : RoomG k A) : A.units + 65 < cLine := by have := r.r.un; omega
/-! ### list.index -/
def kIdx0 (x y : D) (h : DH) (Q : DK) : Prop := ∃ (ds : List PyData) (d : PyData) (j : Nat) (z : PyData), PD h x (.list ds) ∧ PD h y d ∧ SeqAt.shaped (.list ds) = true ∧ SeqAt.shaped d = true ∧ ds[j]? = some z ∧ PyData.eqv z d = true ∧
  (∀ (m : Nat) (z' : PyData), m < j → ds[m]? = some z' → PyData.eqv z' d = false) ∧ Q (.int (j : Nat)) h
@[irreducible] noncomputable def kIdx : D → D → DH → DK → Prop := hide kIdx0
theorem kIdx_eq {x y : D} {h : DH} {Q : DK} : kIdx x y h Q = kIdx0 x y h Q := by unfold kIdx; rw [hide_eq]
noncomputable def dIndex (a : DE) (b : DE) : DE := fun τ h Q => a τ h fun x h1 => match x with
  | .loc l => (∃ xs, h1 l = some (.lst xs)) ∧ b τ h1 fun y h2 => kIdx (.loc l) y h2 Q
  | _ => False
section
variable {X : Cx} {K : PySem.W.Frag}
theorem lm_index {ta te : TE} {da de : DE} (la : LE K ta da) (le : LE K te de) : LE K (tBM K "list" (rIndexD K) ta (tCons te tNil)) (dIndex da de) := fun τ σ h H Q Q0 rs hr bw w =>
  la τ σ h H _ _ rs hr (fun x h1 v H1 x1 r1 hr1 w1 => by
    cases x with
    | loc l =>
      obtain ⟨⟨xs0, hl⟩, w1⟩ := w1
      obtain ⟨vs0, s0, q0⟩ := hr1 _ _ hl
      have e := rv_loc r1
      subst e
      refine ⟨Or.inl ⟨rfl, _, Or.inl (Or.inl s0)⟩, ?_⟩
      refine le τ σ h1 H1 _ _ (rs.mono x1) hr1 (fun y h2 u H2 x2 r2 hr2 w2 => ?_) w1
      rw [kIdx_eq] at w2
      obtain ⟨ds, d, j, z, p1, p2, s1, s2, g1, g2, g3, w3⟩ := w2
      exact ⟨l, u, d, ds, j, z, rfl, rfl, p1.dp hr2 (RV.mono x2 _ _ r1), p2.dp hr2 r2, s1, s2, g1, g2, g3, bw _ h2 _ H2 (x1.trans x2) rv_int' hr2 w3⟩
    | _ => exact w1.elim) w
theorem xindex {o e : Expr} {to te : TE} {d1 de : DE} {apos cpos : Pos} (hu : X.A.units + 65 < cLine) (ho : XE X K o to d1) (he : XE X K e te de)
    (hbase : attributeBase o "index" X.env (eval o X.env) = eval o X.env := by rfl)
    (hfew : ((backTo cpos (starEach [e] X.env)).all (fun x => !x.1) && (backToKw cpos (keywordEach [] X.env)).all (fun x => x.1.isSome)
      && decide ([e].length + ([] : List Keyword).length + (if ([] : List Keyword).isEmpty then 0 else 1) < 30)) = true := by rfl)
    (hline : (apos.endLine == cpos.line) = true := by rfl) (hs : starEach [e] X.env = (false, eval e X.env) :: starEach [] X.env := by rfl) (hplain : (backTo cpos (starEach [] X.env)).any (·.1) = false := by rfl) (hK : X.K = K := by rfl) :
    XE X K (.Call (.Attribute o "index" apos) [e] [] cpos) (tBM K "list" (rIndexD K) to (tCons te tNil)) (dIndex d1 de) :=
  ⟨by subst hK; exact pe_bm PySem.F.plainAttrs_list PySem.F.slot_list_index PySem.F.type_list_index (mt_indexD hu) ho.p (pa_cons he.p pa_nil hs) hbase hfew hline hs hplain, lm_index ho.l he.l⟩
end
end DL

set_option Elab.async false
set_option linter.all false
set_option maxRecDepth 100000
/-! DL13: {k: v, ..} with keys ints and texts. -/
namespace DL
open PySem PySem.Spec PyProof.Rows L2
def dPairs : List (DE × DE) → DSt → DH → (List (Key × D) → DH → Prop) → Prop
  | [], _, h, Q => Q [] h
  | (tk, tv) :: r, τ, h, Q => tk τ h fun x h1 => tv τ h1 fun y h2 => match keyD x with
    | some k => dPairs r τ h2 fun ps h3 => Q ((k, y) :: ps) h3
    | none => False
def LPs (K : PySem.W.Frag) (trs : List (TE × TE)) (ds : List (DE × DE)) : Prop := ∀ τ σ h H (Q : List (Key × D) → DH → Prop) (Q0 : List (V × V) → Hp → Prop), RS K H τ σ → HR K H h →
  (∀ kvs h' (us : List (Key × V)) H', TX K H H' → RKV K H' kvs us → HR K H' h' → Q kvs h' → Q0 (us.map fun kv => (kV kv.1, kv.2)) H') → dPairs ds τ h Q → tPairs trs σ H Q0
structure XPPs (X : Cx) (K : PySem.W.Frag) (pos : Pos) (keys : List (Option Expr)) (values : List Expr) (trs : List (TE × TE)) (ds : List (DE × DE)) : Prop where
  p : PPs X pos keys values trs
  l : LPs K trs ds
def mergeD (kvs more : List (Key × D)) : List (Key × D) := more.foldl (fun acc kv => putD acc kv.1 kv.2) kvs
theorem rkv_merge {K : PySem.W.Frag} {H : Hp} : ∀ {more : List (Key × D)} {us : List (Key × V)} {kvs : List (Key × D)} {vs : List (Key × V)}, RKV K H more us → RKV K H kvs vs → RKV K H (mergeD kvs more) (mergeK vs us) := by
  intro more us kvs vs r
  unfold RKV at r
  induction r generalizing kvs vs with
  | nil => intro q; exact q
  | @cons p q ps qs h t ih =>
    intro r0
    obtain ⟨p1, p2⟩ := p
    obtain ⟨q1, q2⟩ := q
    obtain ⟨h1, h2⟩ := h
    have h1 : p1 = q1 := h1
    subst h1
    exact ih (rkv_put r0 p1 h2)
def dDisp (ds : List (DE × DE)) : DE := fun τ h Q => ∀ p, h p = none → dPairs ds τ (hupd h p (.dK [])) fun kvs h2 => h2 p = some (.dK []) ∧ kvs.length ≤ 15 ∧ Q (.loc p) (hupd h2 p (.dK (mergeD [] kvs)))
section
variable {X : Cx} {K : PySem.W.Frag} {pos : Pos}
theorem xpps_nil : XPPs X K pos [] [] [] [] := ⟨pps_nil, fun τ σ h H Q Q0 rs hr bw w => bw [] h [] H TX.refl .nil hr w⟩
theorem xpps_cons {k v : Expr} {ks : List (Option Expr)} {vs : List Expr} {tk tv : TE} {dk dv : DE} {trs : List (TE × TE)} {ds : List (DE × DE)} (hk : XE X K k tk dk) (hv : XE X K v tv dv) (hr : XPPs X K pos ks vs trs ds) : XPPs X K pos (some k :: ks) (v :: vs) ((tk, tv) :: trs) ((dk, dv) :: ds) :=
  ⟨pps_cons hk.p hv.p hr.p, fun τ σ h H Q Q0 rs hr0 bw w => hk.l τ σ h H _ _ rs hr0 (fun x h1 xv H1 x1 r1 hr1 w1 => hv.l τ σ h1 H1 _ _ (rs.mono x1) hr1 (fun y h2 yv H2 x2 r2 hr2 w2 => by
    have w2 : (match keyD x with | some k => dPairs ds τ h2 fun ps h3 => Q ((k, y) :: ps) h3 | none => False) := w2
    cases z : keyD x with
    | none => rw [z] at w2; exact w2.elim
    | some k0 =>
      rw [z] at w2
      refine hr.l τ σ h2 H2 _ _ (rs.mono (x1.trans x2)) hr2 (fun kvs h3 us H3 x3 r3 hr3 w3 => ?_) w2
      have ek := keyD_v z r1
      have := bw ((k0, y) :: kvs) h3 ((k0, yv) :: us) H3 (x1.trans (x2.trans x3)) (.cons ⟨rfl, RV.mono x3 _ _ r2⟩ r3) hr3 w3
      rw [ek]
      exact this) w1) w⟩
theorem xdisp {keys : List (Option Expr)} {values : List Expr} {trs : List (TE × TE)} {ds : List (DE × DE)} (h : XPPs X K pos keys values trs ds) (hall : keys.all (·.isSome) = true := by rfl) (hl : keys.length = values.length := by rfl) (h0 : keys ≠ [] := by exact List.cons_ne_nil _ _)
    (h15 : keys.length ≤ 15 := by decide) : XE X K (.Dict keys values pos) (tDisp trs) (dDisp ds) :=
  ⟨pe_disp h.p hall hl h0 h15, fun τ σ h1 H Q Q0 rs hr bw w p hp => by
    have x0 : TX K H (upd H p (.dK [])) := tx_new hp
    refine h.l τ σ _ _ _ _ (rs.mono x0) (hr.put x0 (ro_dK (kvs := []) .nil)) (fun kvs h' us H' x1 r1 hr1 w1 => ?_) (w p (hr.free hp))
    obtain ⟨e, l15, w2⟩ := w1
    obtain ⟨us0, e2, r0⟩ := hr1 _ _ e
    have eu : us0 = [] := List.length_eq_zero_iff.mp (rkv_length r0).symm
    subst eu
    have x3 : TX K H' (upd H' p (.dK (mergeK [] us))) := tx_dK e2
    exact ⟨e2, us, rfl, by rw [← rkv_length r1]; exact l15, bw _ _ _ _ (x0.trans (x1.trans x3)) rv_loc' (hr1.put x3 (ro_dK (RKV.mono x3 (rkv_merge r1 .nil)))) w2⟩⟩
end
end DL

set_option Elab.async false
set_option linter.all false
set_option maxRecDepth 100000
set_option maxHeartbeats 4000000
namespace DL
open PySem PySem.Spec PyProof.Rows L2
/-- warmth_by(room, start, minutes, heat): 0 room 1 start 2 minutes 3 heat 4 many 5 found 6 cold 7 rise -/
noncomputable def b_warmth_by : DS :=
    (dSeq (dAsg (dVar 0) (gdTup 2 (gdCons (gdName 6) (gdCons (gdName 7) gdNil))))
    (dSeq (dIfS (dTest (dOp (kEq false) (dVar 1) (dC (.str "warm")))) (dRet (dIf (dTest (dOp (dIsN false) (dVar 3) (dC .non))) (dC .non) (dOp dMul (dVar 2) (dVar 3)))) dNext)
    (dSeq (dAsg (dIf (dTest (dOp (dIsN false) (dVar 3) (dC .non))) (dVar 2) (dCB bMin (dCons (dVar 2) (dCons (dOp dFdiv (dOp dSub (dVar 3) (dVar 6)) (dVar 7)) dNil)))) (gdName 4))
    (dSeq (dAsg (dOp dAdd (dOp dMul (dVar 6) (dVar 4)) (dOp dMul (dVar 7) (dOp dFdiv (dOp dMul (dVar 4) (dOp dAdd (dVar 4) (dC (.int 1)))) (dC (.int 2))))) (gdName 5))
    (dRet (dIf (dTest (dOp (dIsN false) (dVar 3) (dC .non))) (dVar 5) (dOp dAdd (dVar 5) (dOp dMul (dOp dSub (dVar 2) (dVar 4)) (dVar 3)))))))))
@[irreducible] noncomputable def m_warmth_by : DC := hide (runD 8 b_warmth_by)
theorem m_warmth_by_eq : m_warmth_by = runD 8 b_warmth_by := by unfold m_warmth_by; rw [hide_eq]
theorem m_warmth_by_ap {a0 a1 a2 a3 h Q} (w : b_warmth_by { nx := fun _ h => Q .non h, rt := Q } [some a0, some a1, some a2, some a3, none, none, none, none] h) : m_warmth_by [a0, a1, a2, a3] h Q := by rw [m_warmth_by_eq]; exact w
/-- warmth(kitchen, baking, heat): 0 kitchen 1 baking 2 heat -/
noncomputable def b_warmth : DS :=
    (dRet (dCall 4 m_warmth_by (dCons (dOp dIx (dVar 0) (dC (.int 2))) (dCons (dOp dIx (dVar 1) (dC (.int 2))) (dCons (dOp dIx (dVar 1) (dC (.int 3))) (dCons (dVar 2) dNil))))))
@[irreducible] noncomputable def m_warmth : DC := hide (runD 3 b_warmth)
theorem m_warmth_eq : m_warmth = runD 3 b_warmth := by unfold m_warmth; rw [hide_eq]
theorem m_warmth_ap {a0 a1 a2 h Q} (w : b_warmth { nx := fun _ h => Q .non h, rt := Q } [some a0, some a1, some a2] h) : m_warmth [a0, a1, a2] h Q := by rw [m_warmth_eq]; exact w
/-- outcome(kitchen, baking, heat): 0 kitchen 1 baking 2 heat 3 found 4 low 5 high -/
noncomputable def b_outcome : DS :=
    (dSeq (dAsg (dOp dIx (dOp dIx (dVar 0) (dC (.int 5))) (dOp dIx (dVar 1) (dC (.int 4)))) (gdTup 2 (gdCons (gdName 4) (gdCons (gdName 5) gdNil))))
    (dSeq (dAsg (dCall 3 m_warmth (dCons (dVar 0) (dCons (dVar 1) (dCons (dVar 2) dNil)))) (gdName 3))
    (dSeq (dIfS (dTest (dOp dLt (dVar 3) (dVar 4))) (dRet (dC (.str "raw"))) dNext)
    (dRet (dIf (dTest (dOp dGt (dVar 3) (dVar 5))) (dC (.str "burnt")) (dC (.str "right")))))))
@[irreducible] noncomputable def m_outcome : DC := hide (runD 6 b_outcome)
theorem m_outcome_eq : m_outcome = runD 6 b_outcome := by unfold m_outcome; rw [hide_eq]
theorem m_outcome_ap {a0 a1 a2 h Q} (w : b_outcome { nx := fun _ h => Q .non h, rt := Q } [some a0, some a1, some a2, none, none, none] h) : m_outcome [a0, a1, a2] h Q := by rw [m_outcome_eq]; exact w
/-- least_heat(kitchen, baking, least): 0 kitchen 1 baking 2 least 3 top 4 high 5 low 6 step 7 middle -/
noncomputable def b_least_heat : DS :=
    (dSeq (dAsg (dCall 3 m_warmth (dCons (dVar 0) (dCons (dVar 1) (dCons (dC .non) dNil)))) (gdName 3))
    (dSeq (dIfS (dAnd (dTest (dOp (dIsN true) (dVar 3) (dC .non))) (dTest (dOp dLt (dVar 3) (dVar 2)))) (dRet (dC .non)) dNext)
    (dSeq (dPar 5 6 (dCons (dOp dIx (dOp dIx (dVar 0) (dC (.int 2))) (dC (.int 0))) (dCons (dC (.int 1)) dNil)))
    (dSeq (kWhile (dTest (dOp dLt (dCall 3 m_warmth (dCons (dVar 0) (dCons (dVar 1) (dCons (dOp dAdd (dVar 5) (dVar 6)) dNil)))) (dVar 2))) (dAsg (dOp dMul (dVar 6) (dC (.int 2))) (gdName 6)))
    (dSeq (dAsg (dOp dAdd (dVar 5) (dVar 6)) (gdName 4))
    (dSeq (kWhile (dTest (dOp dLt (dVar 5) (dVar 4))) (dSeq (dAsg (dOp dFdiv (dOp dAdd (dVar 5) (dVar 4)) (dC (.int 2))) (gdName 7))
    (dIfS (dTest (dOp dGe (dCall 3 m_warmth (dCons (dVar 0) (dCons (dVar 1) (dCons (dVar 7) dNil)))) (dVar 2))) (dAsg (dVar 7) (gdName 4)) (dAsg (dOp dAdd (dVar 7) (dC (.int 1))) (gdName 5)))))
    (dRet (dVar 5))))))))
@[irreducible] noncomputable def m_least_heat : DC := hide (runD 8 b_least_heat)
theorem m_least_heat_eq : m_least_heat = runD 8 b_least_heat := by unfold m_least_heat; rw [hide_eq]
theorem m_least_heat_ap {a0 a1 a2 h Q} (w : b_least_heat { nx := fun _ h => Q .non h, rt := Q } [some a0, some a1, some a2, none, none, none, none, none] h) : m_least_heat [a0, a1, a2] h Q := by rw [m_least_heat_eq]; exact w
/-- heats_for(kitchen, baking, word): 0 kitchen 1 baking 2 word 3 cold 4 low 5 high 6 first 7 last 8 begin 9 behind -/
noncomputable def b_heats_for : DS :=
    (dSeq (dAsg (dOp dIx (dOp dIx (dVar 0) (dC (.int 5))) (dOp dIx (dVar 1) (dC (.int 4)))) (gdTup 2 (gdCons (gdName 4) (gdCons (gdName 5) gdNil))))
    (dSeq (dAsg (dOp dIx (dOp dIx (dVar 0) (dC (.int 2))) (dC (.int 0))) (gdName 3))
    (dSeq (dPar 6 7 (dCons (dCall 3 m_least_heat (dCons (dVar 0) (dCons (dVar 1) (dCons (dVar 4) dNil)))) (dCons (dCall 3 m_least_heat (dCons (dVar 0) (dCons (dVar 1) (dCons (dOp dAdd (dVar 5) (dC (.int 1))) dNil)))) dNil)))
    (dSeq (dIfS (dTest (dOp (kEq false) (dVar 2) (dC (.str "raw")))) (dPar 8 9 (dCons (dVar 3) (dCons (dVar 6) dNil))) (dIfS (dTest (dOp (kEq false) (dVar 2) (dC (.str "right")))) (dPar 8 9 (dCons (dVar 6) (dCons (dVar 7) dNil))) (dPar 8 9 (dCons (dVar 7) (dCons (dC .non) dNil)))))
    (dSeq (dIfS (dOr (dTest (dOp (dIsN false) (dVar 8) (dC .non))) (dAnd (dTest (dOp (dIsN true) (dVar 9) (dC .non))) (dTest (dOp dGe (dVar 8) (dVar 9))))) (dRet (dC .non)) dNext)
    (dRet (dTup (dCons (dVar 8) (dCons (dIf (dTest (dOp (dIsN false) (dVar 9) (dC .non))) (dC .non) (dOp dSub (dVar 9) (dC (.int 1)))) dNil)))))))))
@[irreducible] noncomputable def m_heats_for : DC := hide (runD 10 b_heats_for)
theorem m_heats_for_eq : m_heats_for = runD 10 b_heats_for := by unfold m_heats_for; rw [hide_eq]
theorem m_heats_for_ap {a0 a1 a2 h Q} (w : b_heats_for { nx := fun _ h => Q .non h, rt := Q } [some a0, some a1, some a2, none, none, none, none, none, none, none] h) : m_heats_for [a0, a1, a2] h Q := by rw [m_heats_for_eq]; exact w
/-- _law_bag(_law_script): 0 _law_script 1 _law_cell 2 _law_great 3 _law_small -/
noncomputable def b_law_bag : DS :=
    (dSeq (dPar 2 3 (dCons (dC (.int 0)) (dCons (dOp dAdd (dC (.int 11222)) (dOp dMul (dC (.int 61)) (dCB (bOne lenD) (dCons (dVar 0) dNil)))) dNil)))
    (dSeq (kFor (diSeq (dSl (dVar 0) dNoPart (dPart (dC (.int 63))))) (gdName 1) (dIfS (dTest (dOp dGe (dVar 1) (dOp dPow (dC (.int 10)) (dC (.int 18))))) (dAsg (dOp dSub (dOp dAdd (dOp dMul (dVar 2) (dC (.int 59))) (dVar 1)) (dOp dPow (dC (.int 10)) (dC (.int 18)))) (gdName 2)) (dSeq (dAsg (dOp dAdd (dOp dAdd (dOp dMul (dVar 3) (dC (.int 2862933555777941757))) (dOp dMul (dC (.int 2)) (dCB (bOne absD) (dCons (dVar 1) dNil)))) (dCB (bOne intD) (dCons (dOp dLt (dVar 1) (dC (.int 0))) dNil))) (gdName 3))
    (dAsg (dOp dMod (dCB (bOne intD) (dCons (dVar 3) dNil)) (dC (.int 2305843009213693951))) (gdName 3)))))
    (dRet (dLst (dCons (dVar 2) (dCons (dVar 3) (dCons (dC (.int 0)) dNil)))))))
@[irreducible] noncomputable def m_law_bag : DC := hide (runD 4 b_law_bag)
theorem m_law_bag_eq : m_law_bag = runD 4 b_law_bag := by unfold m_law_bag; rw [hide_eq]
theorem m_law_bag_ap {a0 h Q} (w : b_law_bag { nx := fun _ h => Q .non h, rt := Q } [some a0, none, none, none] h) : m_law_bag [a0] h Q := by rw [m_law_bag_eq]; exact w
/-- _law_draw(_law_bag_here, _law_limit): 0 _law_bag_here 1 _law_limit 2 _law_mixed 3 _law_digit -/
noncomputable def b_law_draw : DS :=
    (dSeq (dIfS (dTest (dOp dGt (dOp dIx (dVar 0) (dC (.int 0))) (dC (.int 0)))) (dSeq (dAsg (dOp dMod (dCB (bOne intD) (dCons (dOp dIx (dVar 0) (dC (.int 0))) dNil)) (dVar 1)) (gdName 3))
    (dSeq (dAsg (dOp dFdiv (dOp dIx (dVar 0) (dC (.int 0))) (dVar 1)) (gdSub (dVar 0) (dC (.int 0))))
    (dRet (dVar 3)))) dNext)
    (dSeq (dAsg (dOp dAdd (dOp dIx (dVar 0) (dC (.int 2))) (dC (.int 1))) (gdSub (dVar 0) (dC (.int 2))))
    (dSeq (dAsg (dOp dAdd (dOp dMul (dOp dIx (dVar 0) (dC (.int 1))) (dC (.int 2862933555777941757))) (dOp dMul (dC (.int 3037000493)) (dOp dIx (dVar 0) (dC (.int 2))))) (gdName 2))
    (dSeq (dAsg (dOp dMod (dCB (bOne intD) (dCons (dVar 2) dNil)) (dC (.int 2305843009213693951))) (gdSub (dVar 0) (dC (.int 1))))
    (dRet (dOp dMod (dOp dFdiv (dOp dMod (dCB (bOne intD) (dCons (dOp dMul (dOp dIx (dVar 0) (dC (.int 1))) (dOp dIx (dVar 0) (dC (.int 1)))) dNil)) (dC (.int 2305843009213693921))) (dC (.int 4096))) (dVar 1)))))))
@[irreducible] noncomputable def m_law_draw : DC := hide (runD 4 b_law_draw)
theorem m_law_draw_eq : m_law_draw = runD 4 b_law_draw := by unfold m_law_draw; rw [hide_eq]
theorem m_law_draw_ap {a0 a1 h Q} (w : b_law_draw { nx := fun _ h => Q .non h, rt := Q } [some a0, some a1, none, none] h) : m_law_draw [a0, a1] h Q := by rw [m_law_draw_eq]; exact w
/-- _law_pick(_law_bag_here, _law_items): 0 _law_bag_here 1 _law_items -/
noncomputable def b_law_pick : DS :=
    (dRet (dOp dIx (dVar 1) (dCall 2 m_law_draw (dCons (dVar 0) (dCons (dCB (bOne lenD) (dCons (dVar 1) dNil)) dNil)))))
@[irreducible] noncomputable def m_law_pick : DC := hide (runD 2 b_law_pick)
theorem m_law_pick_eq : m_law_pick = runD 2 b_law_pick := by unfold m_law_pick; rw [hide_eq]
theorem m_law_pick_ap {a0 a1 h Q} (w : b_law_pick { nx := fun _ h => Q .non h, rt := Q } [some a0, some a1] h) : m_law_pick [a0, a1] h Q := by rw [m_law_pick_eq]; exact w
/-- _law_ups(_law_ovens, _law_ties_here): 0 _law_ovens 1 _law_ties_here 2 _law_found 3 _law_one 4 _law_turn 5 _law_other 6 _law_low 7 _law_high 8 _law_middle 9 _law_key 10 _law_bound -/
noncomputable def b_law_ups : DS :=
    (dSeq (dAsg dNewT (gdName 2))
    (dSeq (kFor (diRng1 (dCons (dVar 0) dNil)) (gdName 3) (kFor (diRng1 (dCons (dVar 0) dNil)) (gdName 5) (dAsg (dIf (dTest (dOp (kEq false) (dVar 3) (dVar 5))) (dC (.int 0)) (dC .non)) (gdSub (dVar 2) (dTup (dCons (dVar 3) (dCons (dVar 5) dNil)))))))
    (dSeq (kFor (diSeq (dVar 1)) (gdTup 4 (gdCons (gdName 3) (gdCons (gdName 5) (gdCons (gdName 6) (gdCons (gdName 7) gdNil))))) (kFor (diSeq (dLst (dCons (dTup (dCons (dTup (dCons (dVar 3) (dCons (dVar 5) dNil))) (dCons (dVar 7) dNil))) (dCons (dTup (dCons (dTup (dCons (dVar 5) (dCons (dVar 3) dNil))) (dCons (dOp dSub (dC (.int 0)) (dVar 6)) dNil))) dNil)))) (gdTup 2 (gdCons (gdName 9) (gdCons (gdName 10) gdNil))) (dIfS (dOr (dTest (dOp (dIsN false) (dOp dIx (dVar 2) (dVar 9)) (dC .non))) (dTest (dOp dLt (dVar 10) (dOp dIx (dVar 2) (dVar 9))))) (dAsg (dVar 10) (gdSub (dVar 2) (dVar 9))) dNext)))
    (dSeq (kFor (diRng1 (dCons (dC (.int 2)) dNil)) (gdName 4) (kFor (diRng1 (dCons (dVar 0) dNil)) (gdName 8) (kFor (diRng1 (dCons (dVar 0) dNil)) (gdName 3) (kFor (diRng1 (dCons (dVar 0) dNil)) (gdName 5) (dIfS (dAnd (dTest (dOp (dIsN true) (dOp dIx (dVar 2) (dTup (dCons (dVar 3) (dCons (dVar 8) dNil)))) (dC .non))) (dTest (dOp (dIsN true) (dOp dIx (dVar 2) (dTup (dCons (dVar 8) (dCons (dVar 5) dNil)))) (dC .non)))) (dSeq (dAsg (dOp dAdd (dOp dIx (dVar 2) (dTup (dCons (dVar 3) (dCons (dVar 8) dNil)))) (dOp dIx (dVar 2) (dTup (dCons (dVar 8) (dCons (dVar 5) dNil))))) (gdName 10))
    (dIfS (dOr (dTest (dOp (dIsN false) (dOp dIx (dVar 2) (dTup (dCons (dVar 3) (dCons (dVar 5) dNil)))) (dC .non))) (dTest (dOp dLt (dVar 10) (dOp dIx (dVar 2) (dTup (dCons (dVar 3) (dCons (dVar 5) dNil))))))) (dAsg (dVar 10) (gdSub (dVar 2) (dTup (dCons (dVar 3) (dCons (dVar 5) dNil))))) dNext)) dNext)))))
    (dRet (dVar 2))))))
@[irreducible] noncomputable def m_law_ups : DC := hide (runD 11 b_law_ups)
theorem m_law_ups_eq : m_law_ups = runD 11 b_law_ups := by unfold m_law_ups; rw [hide_eq]
theorem m_law_ups_ap {a0 a1 h Q} (w : b_law_ups { nx := fun _ h => Q .non h, rt := Q } [some a0, some a1, none, none, none, none, none, none, none, none, none] h) : m_law_ups [a0, a1] h Q := by rw [m_law_ups_eq]; exact w
/-- _law_is_torn(_law_ovens, _law_ties_here): 0 _law_ovens 1 _law_ties_here 2 _law_found 3 _law_oven -/
noncomputable def b_law_is_torn : DS :=
    (dSeq (dAsg (dCall 2 m_law_ups (dCons (dVar 0) (dCons (dVar 1) dNil))) (gdName 2))
    (dRet (dOp (kEq true) (kLc (diRng1 (dCons (dVar 0) dNil)) (gdName 3) (dTest (dOp dLt (dOp dIx (dVar 2) (dTup (dCons (dVar 3) (dCons (dVar 3) dNil)))) (dC (.int 0)))) (dVar 3) [3]) (dLst dNil))))
@[irreducible] noncomputable def m_law_is_torn : DC := hide (runD 4 b_law_is_torn)
theorem m_law_is_torn_eq : m_law_is_torn = runD 4 b_law_is_torn := by unfold m_law_is_torn; rw [hide_eq]
theorem m_law_is_torn_ap {a0 a1 h Q} (w : b_law_is_torn { nx := fun _ h => Q .non h, rt := Q } [some a0, some a1, none, none] h) : m_law_is_torn [a0, a1] h Q := by rw [m_law_is_torn_eq]; exact w
/-- _law_ties(_law_bag_here, _law_ovens, _law_share): 0 _law_bag_here 1 _law_ovens 2 _law_share 3 _law_found 4 _law_turn 5 _law_one 6 _law_other 7 _law_low 8 _law_tie 9 _law_more -/
noncomputable def b_law_ties : DS :=
    (dSeq (dAsg (dLst dNil) (gdName 3))
    (dSeq (kFor (diRng1 (dCons (dIf (dTest (dOp dGt (dVar 1) (dC (.int 1)))) (dCall 2 m_law_draw (dCons (dVar 0) (dCons (dOp dMul (dC (.int 2)) (dVar 1)) dNil))) (dC (.int 0))) dNil)) (gdName 4) (dSeq (dAsg (dCall 2 m_law_draw (dCons (dVar 0) (dCons (dVar 1) dNil))) (gdName 5))
    (dSeq (dAsg (dOp dMod (dCB (bOne intD) (dCons (dOp dAdd (dOp dAdd (dVar 5) (dC (.int 1))) (dCall 2 m_law_draw (dCons (dVar 0) (dCons (dOp dSub (dVar 1) (dC (.int 1))) dNil)))) dNil)) (dVar 1)) (gdName 6))
    (dSeq (dAsg (dOp dMul (dOp dSub (dCall 2 m_law_draw (dCons (dVar 0) (dCons (dC (.int 11)) dNil))) (dC (.int 5))) (dVar 2)) (gdName 7))
    (dSeq (dAsg (dTup (dCons (dVar 5) (dCons (dVar 6) (dCons (dVar 7) (dCons (dOp dAdd (dVar 7) (dOp dMul (dCall 2 m_law_draw (dCons (dVar 0) (dCons (dC (.int 8)) dNil))) (dVar 2))) dNil))))) (gdName 8))
    (dSeq (dAsg (kSortSet (dOp dAdd (dVar 3) (dLst (dCons (dVar 8) dNil)))) (gdName 9))
    (dIfS (dAnd (dTest (dOp dLt (dCB (bOne lenD) (dCons (dVar 9) dNil)) (dC (.int 7)))) (dNot (dTest (dCall 2 m_law_is_torn (dCons (dVar 1) (dCons (dVar 9) dNil)))))) (dAsg (dVar 9) (gdName 3)) dNext)))))))
    (dRet (dCB bTup (dCons (dVar 3) dNil)))))
@[irreducible] noncomputable def m_law_ties : DC := hide (runD 10 b_law_ties)
theorem m_law_ties_eq : m_law_ties = runD 10 b_law_ties := by unfold m_law_ties; rw [hide_eq]
theorem m_law_ties_ap {a0 a1 a2 h Q} (w : b_law_ties { nx := fun _ h => Q .non h, rt := Q } [some a0, some a1, some a2, none, none, none, none, none, none, none] h) : m_law_ties [a0, a1, a2] h Q := by rw [m_law_ties_eq]; exact w
/-- _law_kitchen(_law_bag_here, _law_dials_here, _law_share): 0 _law_bag_here 1 _law_dials_here 2 _law_share 3 _law_least 4 _law_turn 5 _law_slopes 6 _law_room 7 _law_ovens 8 _law_dishes 9 _law_low -/
noncomputable def b_law_kitchen : DS :=
    (dSeq (dAsg (dOp dMul (dCall 2 m_law_draw (dCons (dVar 0) (dCons (dC (.int 4)) dNil))) (dVar 2)) (gdName 3))
    (dSeq (dPar 5 6 (dCons (dTup (dCons (dVar 3) (dCons (dOp dAdd (dVar 3) (dOp dMul (dCall 2 m_law_draw (dCons (dVar 0) (dCons (dC (.int 6)) dNil))) (dVar 2))) dNil))) (dCons (dTup (dCons (dOp dMul (dCall 2 m_law_draw (dCons (dVar 0) (dCons (dC (.int 31)) dNil))) (dVar 2)) (dCons (dOp dAdd (dC (.int 1)) (dOp dMul (dCall 2 m_law_draw (dCons (dVar 0) (dCons (dC (.int 12)) dNil))) (dVar 2))) dNil))) dNil)))
    (dSeq (dPar 7 8 (dCons (dOp dAdd (dC (.int 1)) (dCall 2 m_law_draw (dCons (dVar 0) (dCons (dC (.int 4)) dNil)))) (dCons (dLst dNil) dNil)))
    (dSeq (kFor (diRng1 (dCons (dOp dAdd (dC (.int 1)) (dCall 2 m_law_draw (dCons (dVar 0) (dCons (dC (.int 3)) dNil)))) dNil)) (gdName 4) (dSeq (dAsg (dOp dMul (dCall 2 m_law_draw (dCons (dVar 0) (dCons (dC (.int 260)) dNil))) (dVar 2)) (gdName 9))
    (dDrop (dAppend (dVar 8) (dTup (dCons (dVar 9) (dCons (dOp dAdd (dVar 9) (dOp dMul (dCall 2 m_law_draw (dCons (dVar 0) (dCons (dC (.int 160)) dNil))) (dVar 2))) dNil)))))))
    (dRet (dTup (dCons (dVar 1) (dCons (dVar 5) (dCons (dVar 6) (dCons (dVar 7) (dCons (dCall 3 m_law_ties (dCons (dVar 0) (dCons (dVar 7) (dCons (dVar 2) dNil)))) (dCons (dCB bTup (dCons (dVar 8) dNil)) dNil))))))))))))
@[irreducible] noncomputable def m_law_kitchen : DC := hide (runD 10 b_law_kitchen)
theorem m_law_kitchen_eq : m_law_kitchen = runD 10 b_law_kitchen := by unfold m_law_kitchen; rw [hide_eq]
theorem m_law_kitchen_ap {a0 a1 a2 h Q} (w : b_law_kitchen { nx := fun _ h => Q .non h, rt := Q } [some a0, some a1, some a2, none, none, none, none, none, none, none] h) : m_law_kitchen [a0, a1, a2] h Q := by rw [m_law_kitchen_eq]; exact w
/-- _law_dials(_law_bag_here): 0 _law_bag_here -/
noncomputable def b_law_dials : DS :=
    (dRet (dCall 2 m_law_pick (dCons (dVar 0) (dCons (dLst (dCons (dC (.int 1)) (dCons (dC (.int 2)) (dCons (dC (.int 3)) (dCons (dC (.int 6)) (dCons (dC (.int 9)) (dCons (dC (.int 12)) dNil))))))) dNil))))
@[irreducible] noncomputable def m_law_dials : DC := hide (runD 1 b_law_dials)
theorem m_law_dials_eq : m_law_dials = runD 1 b_law_dials := by unfold m_law_dials; rw [hide_eq]
theorem m_law_dials_ap {a0 h Q} (w : b_law_dials { nx := fun _ h => Q .non h, rt := Q } [some a0] h) : m_law_dials [a0] h Q := by rw [m_law_dials_eq]; exact w
/-- _law_baking(_law_bag_here, _law_kitchen_here, _law_most): 0 _law_bag_here 1 _law_kitchen_here 2 _law_most 3 _law_start 4 _law_minutes -/
noncomputable def b_law_baking : DS :=
    (dSeq (dPar 3 4 (dCons (dCall 2 m_law_pick (dCons (dVar 0) (dCons (dLst (dCons (dC (.str "cold")) (dCons (dC (.str "warm")) dNil))) dNil))) (dCons (dOp dAdd (dC (.int 1)) (dCall 2 m_law_draw (dCons (dVar 0) (dCons (dVar 2) dNil)))) dNil)))
    (dRet (dTup (dCons (dCall 2 m_law_draw (dCons (dVar 0) (dCons (dOp dIx (dVar 1) (dC (.int 3))) dNil))) (dCons (dCall 2 m_law_draw (dCons (dVar 0) (dCons (dOp dAdd (dOp dIx (dVar 1) (dC (.int 0))) (dC (.int 1))) dNil))) (dCons (dVar 3) (dCons (dVar 4) (dCons (dCall 2 m_law_draw (dCons (dVar 0) (dCons (dCB (bOne lenD) (dCons (dOp dIx (dVar 1) (dC (.int 5))) dNil)) dNil))) dNil))))))))
@[irreducible] noncomputable def m_law_baking : DC := hide (runD 5 b_law_baking)
theorem m_law_baking_eq : m_law_baking = runD 5 b_law_baking := by unfold m_law_baking; rw [hide_eq]
theorem m_law_baking_ap {a0 a1 a2 h Q} (w : b_law_baking { nx := fun _ h => Q .non h, rt := Q } [some a0, some a1, some a2, none, none] h) : m_law_baking [a0, a1, a2] h Q := by rw [m_law_baking_eq]; exact w
/-- _law_warmth(_law_kitchen_here, _law_baking_here, _law_heat): 0 _law_kitchen_here 1 _law_baking_here 2 _law_heat 3 _law_minutes 4 _law_many 5 _law_cold 6 _law_rise -/
noncomputable def b_law_warmth : DS :=
    (dSeq (dAsg (dOp dIx (dVar 0) (dC (.int 2))) (gdTup 2 (gdCons (gdName 5) (gdCons (gdName 6) gdNil))))
    (dSeq (dAsg (dOp dIx (dVar 1) (dC (.int 3))) (gdName 3))
    (dSeq (dIfS (dTest (dOp (kEq false) (dOp dIx (dVar 1) (dC (.int 2))) (dC (.str "warm")))) (dRet (dOp dMul (dVar 3) (dVar 2))) dNext)
    (dSeq (dAsg (dCB bMin (dCons (dVar 3) (dCons (dOp dFdiv (dOp dSub (dVar 2) (dVar 5)) (dVar 6)) dNil))) (gdName 4))
    (dRet (dOp dAdd (dOp dAdd (dOp dMul (dVar 5) (dVar 4)) (dOp dMul (dVar 6) (dOp dFdiv (dOp dMul (dVar 4) (dOp dAdd (dVar 4) (dC (.int 1)))) (dC (.int 2))))) (dOp dMul (dOp dSub (dVar 3) (dVar 4)) (dVar 2))))))))
@[irreducible] noncomputable def m_law_warmth : DC := hide (runD 7 b_law_warmth)
theorem m_law_warmth_eq : m_law_warmth = runD 7 b_law_warmth := by unfold m_law_warmth; rw [hide_eq]
theorem m_law_warmth_ap {a0 a1 a2 h Q} (w : b_law_warmth { nx := fun _ h => Q .non h, rt := Q } [some a0, some a1, some a2, none, none, none, none] h) : m_law_warmth [a0, a1, a2] h Q := by rw [m_law_warmth_eq]; exact w
/-- _law_first(_law_kitchen_here, _law_baking_here, _law_need): 0 _law_kitchen_here 1 _law_baking_here 2 _law_need 3 _law_minutes 4 _law_turn 5 _law_cold 6 _law_rise 7 _law_low 8 _law_high 9 _law_middle -/
noncomputable def b_law_first : DS :=
    (dSeq (dAsg (dOp dIx (dVar 0) (dC (.int 2))) (gdTup 2 (gdCons (gdName 5) (gdCons (gdName 6) gdNil))))
    (dSeq (dAsg (dOp dIx (dVar 1) (dC (.int 3))) (gdName 3))
    (dSeq (dIfS (dTest (dOp (kEq false) (dOp dIx (dVar 1) (dC (.int 2))) (dC (.str "warm")))) (dRet (dCB bMax (dCons (dVar 5) (dCons (dOp dSub (dC (.int 0)) (dOp dFdiv (dOp dSub (dC (.int 0)) (dVar 2)) (dVar 3))) dNil)))) dNext)
    (dSeq (dPar 7 8 (dCons (dVar 5) (dCons (dOp dAdd (dVar 5) (dOp dMul (dVar 6) (dVar 3))) dNil)))
    (dSeq (dIfS (dTest (dOp dLt (dCall 3 m_law_warmth (dCons (dVar 0) (dCons (dVar 1) (dCons (dVar 8) dNil)))) (dVar 2))) (dRet (dC .non)) dNext)
    (dSeq (kFor (diRng1 (dCons (dC (.int 120)) dNil)) (gdName 4) (dSeq (dIfS (dTest (dOp dGe (dVar 7) (dVar 8))) dBreak dNext)
    (dSeq (dAsg (dOp dFdiv (dOp dAdd (dVar 7) (dVar 8)) (dC (.int 2))) (gdName 9))
    (dIfS (dTest (dOp dLt (dCall 3 m_law_warmth (dCons (dVar 0) (dCons (dVar 1) (dCons (dVar 9) dNil)))) (dVar 2))) (dAsg (dOp dAdd (dVar 9) (dC (.int 1))) (gdName 7)) (dAsg (dVar 9) (gdName 8))))))
    (dRet (dVar 7))))))))
@[irreducible] noncomputable def m_law_first : DC := hide (runD 10 b_law_first)
theorem m_law_first_eq : m_law_first = runD 10 b_law_first := by unfold m_law_first; rw [hide_eq]
theorem m_law_first_ap {a0 a1 a2 h Q} (w : b_law_first { nx := fun _ h => Q .non h, rt := Q } [some a0, some a1, some a2, none, none, none, none, none, none, none] h) : m_law_first [a0, a1, a2] h Q := by rw [m_law_first_eq]; exact w
/-- _law_heats(_law_kitchen_here, _law_baking_here, _law_word): 0 _law_kitchen_here 1 _law_baking_here 2 _law_word 3 _law_low 4 _law_high 5 _law_first_here 6 _law_last 7 _law_begin 8 _law_behind -/
noncomputable def b_law_heats : DS :=
    (dSeq (dAsg (dOp dIx (dOp dIx (dVar 0) (dC (.int 5))) (dOp dIx (dVar 1) (dC (.int 4)))) (gdTup 2 (gdCons (gdName 3) (gdCons (gdName 4) gdNil))))
    (dSeq (dPar 5 6 (dCons (dCall 3 m_law_first (dCons (dVar 0) (dCons (dVar 1) (dCons (dVar 3) dNil)))) (dCons (dCall 3 m_law_first (dCons (dVar 0) (dCons (dVar 1) (dCons (dOp dAdd (dVar 4) (dC (.int 1))) dNil)))) dNil)))
    (dSeq (dAsg (dOp dIx (dDisp (((dC (.str "raw")), (dTup (dCons (dOp dIx (dOp dIx (dVar 0) (dC (.int 2))) (dC (.int 0))) (dCons (dVar 5) dNil)))) :: (((dC (.str "right")), (dTup (dCons (dVar 5) (dCons (dVar 6) dNil)))) :: (((dC (.str "burnt")), (dTup (dCons (dVar 6) (dCons (dC .non) dNil)))) :: [])))) (dVar 2)) (gdTup 2 (gdCons (gdName 7) (gdCons (gdName 8) gdNil))))
    (dSeq (dIfS (dOr (dTest (dOp (dIsN false) (dVar 7) (dC .non))) (dAnd (dTest (dOp (dIsN true) (dVar 8) (dC .non))) (dTest (dOp dGe (dVar 7) (dVar 8))))) (dRet (dC .non)) dNext)
    (dRet (dTup (dCons (dVar 7) (dCons (dIf (dTest (dOp (dIsN false) (dVar 8) (dC .non))) (dC .non) (dOp dSub (dVar 8) (dC (.int 1)))) dNil))))))))
@[irreducible] noncomputable def m_law_heats : DC := hide (runD 9 b_law_heats)
theorem m_law_heats_eq : m_law_heats = runD 9 b_law_heats := by unfold m_law_heats; rw [hide_eq]
theorem m_law_heats_ap {a0 a1 a2 h Q} (w : b_law_heats { nx := fun _ h => Q .non h, rt := Q } [some a0, some a1, some a2, none, none, none, none, none, none] h) : m_law_heats [a0, a1, a2] h Q := by rw [m_law_heats_eq]; exact w
/-- _law_outcome(_law_kitchen_here, _law_baking_here, _law_heat): 0 _law_kitchen_here 1 _law_baking_here 2 _law_heat 3 _law_found 4 _law_low 5 _law_high -/
noncomputable def b_law_outcome : DS :=
    (dSeq (dAsg (dOp dIx (dOp dIx (dVar 0) (dC (.int 5))) (dOp dIx (dVar 1) (dC (.int 4)))) (gdTup 2 (gdCons (gdName 4) (gdCons (gdName 5) gdNil))))
    (dSeq (dAsg (dCall 3 m_law_warmth (dCons (dVar 0) (dCons (dVar 1) (dCons (dVar 2) dNil)))) (gdName 3))
    (dRet (dIf (dTest (dOp dLt (dVar 3) (dVar 4))) (dC (.str "raw")) (dIf (dTest (dOp dGt (dVar 3) (dVar 5))) (dC (.str "burnt")) (dC (.str "right")))))))
@[irreducible] noncomputable def m_law_outcome : DC := hide (runD 6 b_law_outcome)
theorem m_law_outcome_eq : m_law_outcome = runD 6 b_law_outcome := by unfold m_law_outcome; rw [hide_eq]
theorem m_law_outcome_ap {a0 a1 a2 h Q} (w : b_law_outcome { nx := fun _ h => Q .non h, rt := Q } [some a0, some a1, some a2, none, none, none] h) : m_law_outcome [a0, a1, a2] h Q := by rw [m_law_outcome_eq]; exact w
/-- law(_law_script): 0 _law_script 1 _law_bag_here 2 _law_turn 3 _law_share 4 _law_kitchen_here 5 _law_dishes 6 _law_again 7 _law_baking_here 8 _law_heats_here 9 _law_word 10 _law_heat 11 _law_due 12 _law_end -/
noncomputable def b_law : DS :=
    (dSeq (dAsg (dCall 1 m_law_bag (dCons (dVar 0) dNil)) (gdName 1))
    (dSeq (kFor (diRng1 (dCons (dC (.int 8)) dNil)) (gdName 2) (dSeq (dAsg (dCall 2 m_law_pick (dCons (dVar 1) (dCons (dLst (dCons (dC (.int 1)) (dCons (dC (.int 1)) (dCons (dC (.int 7)) (dCons (dOp dPow (dC (.int 10)) (dC (.int 7))) dNil))))) dNil))) (gdName 3))
    (dSeq (dAsg (dCall 3 m_law_kitchen (dCons (dVar 1) (dCons (dCall 1 m_law_dials (dCons (dVar 1) dNil)) (dCons (dVar 3) dNil)))) (gdName 4))
    (dSeq (dAsg (dOp dAdd (dOp dIx (dVar 4) (dC (.int 5))) (dTup (dCons (dTup (dCons (dOp dPow (dC (.int 10)) (dC (.int 24))) (dCons (dOp dPow (dC (.int 10)) (dC (.int 24))) dNil))) (dCons (dTup (dCons (dC (.int 0)) (dCons (dC (.int 0)) dNil))) (dCons (dTup (dCons (dC (.int 0)) (dCons (dOp dPow (dC (.int 10)) (dC (.int 24))) dNil))) dNil))))) (gdName 5))
    (dSeq (dAsg (dOp dAdd (dSl (dVar 4) dNoPart (dPart (dC (.int 5)))) (dTup (dCons (dVar 5) dNil))) (gdName 4))
    (kFor (diRng1 (dCons (dC (.int 3)) dNil)) (gdName 6) (dSeq (dAsg (dCall 3 m_law_baking (dCons (dVar 1) (dCons (dVar 4) (dCons (dCall 2 m_law_pick (dCons (dVar 1) (dCons (dLst (dCons (dC (.int 1)) (dCons (dC (.int 4)) (dCons (dC (.int 30)) (dCons (dOp dPow (dC (.int 10)) (dC (.int 6))) dNil))))) dNil))) dNil)))) (gdName 7))
    (dSeq (dAsg (dLst (dCons (dOp dIx (dOp dIx (dVar 4) (dC (.int 2))) (dC (.int 0))) (dCons (dOp dAdd (dOp dIx (dOp dIx (dVar 4) (dC (.int 2))) (dC (.int 0))) (dOp dMul (dCall 2 m_law_draw (dCons (dVar 1) (dCons (dC (.int 90)) dNil))) (dVar 3))) (dCons (dOp dPow (dC (.int 10)) (dC (.int 30))) dNil)))) (gdName 8))
    (dSeq (kFor (diSeq (dLst (dCons (dC (.str "raw")) (dCons (dC (.str "right")) (dCons (dC (.str "burnt")) dNil))))) (gdName 9) (dSeq (dAsg (dCall 3 m_law_heats (dCons (dVar 4) (dCons (dVar 7) (dCons (dVar 9) dNil)))) (gdName 11))
    (dSeq (dIfS (dTest (dOp (kEq true) (dCB kRepr (dCons (dLst (dCons (dCall 3 m_heats_for (dCons (dVar 4) (dCons (dVar 7) (dCons (dVar 9) dNil)))) (dCons (dCall 3 m_heats_for (dCons (dVar 4) (dCons (dVar 7) (dCons (dVar 9) dNil)))) dNil))) dNil)) (dCB kRepr (dCons (dLst (dCons (dVar 11) (dCons (dVar 11) dNil))) dNil)))) (dRet (dC (.bl false))) dNext)
    (kFor (diSeq (dIf (dTest (dOp (dIsN true) (dVar 11) (dC .non))) (dVar 11) (dTup dNil))) (gdName 12) (dIfS (dTest (dOp (dIsN true) (dVar 12) (dC .non))) (dAsg (dOp dAdd (dVar 8) (dLst (dCons (dVar 12) (dCons (dOp dAdd (dVar 12) (dC (.int 1))) (dCons (dCB bMax (dCons (dOp dIx (dOp dIx (dVar 4) (dC (.int 2))) (dC (.int 0))) (dCons (dOp dSub (dVar 12) (dC (.int 1))) dNil))) dNil))))) (gdName 8)) dNext)))))
    (kFor (diSeq (dVar 8)) (gdName 10) (dSeq (dAsg (dCall 3 m_law_outcome (dCons (dVar 4) (dCons (dVar 7) (dCons (dVar 10) dNil)))) (gdName 11))
    (dIfS (dTest (dOp (kEq true) (dCB kRepr (dCons (dLst (dCons (dCall 3 m_outcome (dCons (dVar 4) (dCons (dVar 7) (dCons (dVar 10) dNil)))) (dCons (dCall 3 m_outcome (dCons (dVar 4) (dCons (dVar 7) (dCons (dVar 10) dNil)))) dNil))) dNil)) (dCB kRepr (dCons (dLst (dCons (dVar 11) (dCons (dVar 11) dNil))) dNil)))) (dRet (dC (.bl false))) dNext))))))))))))
    (dRet (dC (.bl true)))))
@[irreducible] noncomputable def m_law : DC := hide (runD 13 b_law)
theorem m_law_eq : m_law = runD 13 b_law := by unfold m_law; rw [hide_eq]
theorem m_law_ap {a0 h Q} (w : b_law { nx := fun _ h => Q .non h, rt := Q } [some a0, none, none, none, none, none, none, none, none, none, none, none, none] h) : m_law [a0] h Q := by rw [m_law_eq]; exact w
end DL

set_option Elab.async false
set_option linter.all false
set_option maxRecDepth 100000
set_option maxHeartbeats 4000000
namespace DL
open PySem PySem.Spec PyProof.Rows L2
def top (i : Nat) : Stmt := PySem.Challenge.pw_ovensuntold_k09_outcomes_and_heats.main.body.getD i (.Pass ⟨0, 0, 0, 0⟩)
abbrev s_warmth_by : Stmt := top 1
abbrev s_warmth : Stmt := top 2
abbrev s_outcome : Stmt := top 3
abbrev s_least_heat : Stmt := top 4
abbrev s_heats_for : Stmt := top 5
abbrev s_law_bag : Stmt := top 7
abbrev s_law_draw : Stmt := top 8
abbrev s_law_pick : Stmt := top 9
abbrev s_law_ups : Stmt := top 10
abbrev s_law_is_torn : Stmt := top 11
abbrev s_law_ties : Stmt := top 12
abbrev s_law_kitchen : Stmt := top 13
abbrev s_law_dials : Stmt := top 14
abbrev s_law_baking : Stmt := top 15
abbrev s_law_warmth : Stmt := top 16
abbrev s_law_first : Stmt := top 17
abbrev s_law_heats : Stmt := top 18
abbrev s_law_outcome : Stmt := top 19
abbrev s_law : Stmt := top 20
structure Facts (K : PySem.W.Frag) (mg : Str → Option Value) : Prop where
  n_abs : mg "abs" = none
  n_int : mg "int" = none
  n_len : mg "len" = none
  n_max : mg "max" = none
  n_min : mg "min" = none
  n_range : mg "range" = none
  n_repr : mg "repr" = none
  n_set : mg "set" = none
  n_sorted : mg "sorted" = none
  n_tuple : mg "tuple" = none
section
variable {P : Program} {w : World} {K : PySem.W.Frag} {mg : Str → Option Value} {base : Heap}
theorem sc_warmth_by : FnScope ["room", "start", "minutes", "heat", "many", "found", "cold", "rise"] ["room", "start", "minutes", "heat"] (defScope s_warmth_by) := ⟨rfl, rfl, rfl, by decide +kernel, rfl, by decide +kernel, by decide +kernel⟩
theorem ok_warmth_by (T : Facts K mg) {a : Addr} {fd : FuncData} (F : Fun K "warmth_by" "warmth_by" s_warmth_by a fd) (hm : mg "warmth_by" = some (.ref a))  : Known P w K mg base "warmth_by" 1 4 m_warmth_by := by
  have S := sc_warmth_by
  rw [m_warmth_by_eq]
  refine known_of F hm (okD F S rfl rfl fun cdv A outer s H E hr => ?_) (F.binds (ps := ["room", "start", "minutes", "heat"]) fun _ _ _ _ _ _ us hl => match us, hl with | [_, _, _, _], _ => rfl)
  have hu := hr.hu
  have hu1 := hr.hu1
  have hu5 := hr.hu5
  exact ⟨_, (xss_cons (xs_asg (xv 0) (xg_tup rfl (xgs_cons (xg_name (i := 6) S.nd) (xgs_cons (xg_name (i := 7) S.nd) xgs_nil))))
    (xss_cons (xs_if (xtcmp (qk_eq hu) (xv 1) xstr) (xss_one (xs_ret (xif (xtcmp q_is (xv 3) xnon) xnon (xop q_mul (xv 2) (xv 3))))) xss_nil)
    (xss_cons (xs_set (i := 4) S.nd (xif (xtcmp q_is (xv 3) xnon) (xv 2) (xcallB (q_min rfl) T.n_min (xcons (xv 2) (xcons (xop q_fdiv (xop q_sub (xv 3) (xv 6)) (xv 7)) xnil)))))
    (xss_cons (xs_set (i := 5) S.nd (xop q_add (xop q_mul (xv 6) (xv 4)) (xop q_mul (xv 7) (xop q_fdiv (xop q_mul (xv 4) (xop q_add (xv 4) xint)) xint))))
    (xss_one (xs_ret (xif (xtcmp q_is (xv 3) xnon) (xv 5) (xop q_add (xv 5) (xop q_mul (xop q_sub (xv 2) (xv 4)) (xv 3))))))))))⟩
theorem sc_warmth : FnScope ["kitchen", "baking", "heat"] ["kitchen", "baking", "heat"] (defScope s_warmth) := ⟨rfl, rfl, rfl, by decide +kernel, rfl, by decide +kernel, by decide +kernel⟩
theorem ok_warmth (T : Facts K mg) {a : Addr} {fd : FuncData} (F : Fun K "warmth" "warmth" s_warmth a fd) (hm : mg "warmth" = some (.ref a)) (G_warmth_by : Known P w K mg base "warmth_by" 1 4 m_warmth_by) : Known P w K mg base "warmth" 2 3 m_warmth := by
  have S := sc_warmth
  rw [m_warmth_eq]
  refine known_of F hm (okD F S rfl rfl fun cdv A outer s H E hr => ?_) (F.binds (ps := ["kitchen", "baking", "heat"]) fun _ _ _ _ _ _ us hl => match us, hl with | [_, _, _], _ => rfl)
  have hu := hr.hu
  have hu1 := hr.hu1
  have hu5 := hr.hu5
  exact ⟨_, (xss_one (xs_ret (xkn G_warmth_by (hr.mono (by decide)) (xcons (xix hu1 (xv 0) xint) (xcons (xix hu1 (xv 1) xint) (xcons (xix hu1 (xv 1) xint) (xcons (xv 2) xnil)))))))⟩
theorem sc_outcome : FnScope ["kitchen", "baking", "heat", "found", "low", "high"] ["kitchen", "baking", "heat"] (defScope s_outcome) := ⟨rfl, rfl, rfl, by decide +kernel, rfl, by decide +kernel, by decide +kernel⟩
theorem ok_outcome (T : Facts K mg) {a : Addr} {fd : FuncData} (F : Fun K "outcome" "outcome" s_outcome a fd) (hm : mg "outcome" = some (.ref a)) (G_warmth : Known P w K mg base "warmth" 2 3 m_warmth) : Known P w K mg base "outcome" 3 3 m_outcome := by
  have S := sc_outcome
  rw [m_outcome_eq]
  refine known_of F hm (okD F S rfl rfl fun cdv A outer s H E hr => ?_) (F.binds (ps := ["kitchen", "baking", "heat"]) fun _ _ _ _ _ _ us hl => match us, hl with | [_, _, _], _ => rfl)
  have hu := hr.hu
  have hu1 := hr.hu1
  have hu5 := hr.hu5
  exact ⟨_, (xss_cons (xs_asg (xix hu1 (xix hu1 (xv 0) xint) (xix hu1 (xv 1) xint)) (xg_tup rfl (xgs_cons (xg_name (i := 4) S.nd) (xgs_cons (xg_name (i := 5) S.nd) xgs_nil))))
    (xss_cons (xs_set (i := 3) S.nd (xkn G_warmth (hr.mono (by decide)) (xcons (xv 0) (xcons (xv 1) (xcons (xv 2) xnil)))))
    (xss_cons (xs_if (xtcmp q_lt (xv 3) (xv 4)) (xss_one (xs_ret xstr)) xss_nil)
    (xss_one (xs_ret (xif (xtcmp q_gt (xv 3) (xv 5)) xstr xstr))))))⟩
theorem sc_least_heat : FnScope ["kitchen", "baking", "least", "top", "high", "low", "step", "middle"] ["kitchen", "baking", "least"] (defScope s_least_heat) := ⟨rfl, rfl, rfl, by decide +kernel, rfl, by decide +kernel, by decide +kernel⟩
theorem ok_least_heat (T : Facts K mg) {a : Addr} {fd : FuncData} (F : Fun K "least_heat" "least_heat" s_least_heat a fd) (hm : mg "least_heat" = some (.ref a)) (G_warmth : Known P w K mg base "warmth" 2 3 m_warmth) : Known P w K mg base "least_heat" 3 3 m_least_heat := by
  have S := sc_least_heat
  rw [m_least_heat_eq]
  refine known_of F hm (okD F S rfl rfl fun cdv A outer s H E hr => ?_) (F.binds (ps := ["kitchen", "baking", "least"]) fun _ _ _ _ _ _ us hl => match us, hl with | [_, _, _], _ => rfl)
  have hu := hr.hu
  have hu1 := hr.hu1
  have hu5 := hr.hu5
  exact ⟨_, (xss_cons (xs_set (i := 3) S.nd (xkn G_warmth (hr.mono (by decide)) (xcons (xv 0) (xcons (xv 1) (xcons xnon xnil)))))
    (xss_cons (xs_if (xwand (xtcmp q_isnot (xv 3) xnon) (xwand1 (xtcmp q_lt (xv 3) (xv 2)))).toT (xss_one (xs_ret xnon)) xss_nil)
    (xss_cons (xs_par (i := 5) (j := 6) rfl S.nd (xcons (xix hu1 (xix hu1 (xv 0) xint) xint) (xcons xint xnil)) (by decide))
    (xss_cons (xs_kwhile PassesOwn.never (xtcmp q_lt (xkn G_warmth (hr.mono (by decide)) (xcons (xv 0) (xcons (xv 1) (xcons (xop q_add (xv 5) (xv 6)) xnil)))) (xv 2)) (xss_one (xs_set (i := 6) S.nd (xop q_mul (xv 6) xint))))
    (xss_cons (xs_set (i := 4) S.nd (xop q_add (xv 5) (xv 6)))
    (xss_cons (xs_kwhile PassesOwn.never (xtcmp q_lt (xv 5) (xv 4)) (xss_cons (xs_set (i := 7) S.nd (xop q_fdiv (xop q_add (xv 5) (xv 4)) xint))
    (xss_one (xs_if (xtcmp q_ge (xkn G_warmth (hr.mono (by decide)) (xcons (xv 0) (xcons (xv 1) (xcons (xv 7) xnil)))) (xv 2)) (xss_one (xs_set (i := 4) S.nd (xv 7))) (xss_one (xs_set (i := 5) S.nd (xop q_add (xv 7) xint)))))))
    (xss_one (xs_ret (xv 5)))))))))⟩
theorem sc_heats_for : FnScope ["kitchen", "baking", "word", "cold", "low", "high", "first", "last", "begin", "behind"] ["kitchen", "baking", "word"] (defScope s_heats_for) := ⟨rfl, rfl, rfl, by decide +kernel, rfl, by decide +kernel, by decide +kernel⟩
theorem ok_heats_for (T : Facts K mg) {a : Addr} {fd : FuncData} (F : Fun K "heats_for" "heats_for" s_heats_for a fd) (hm : mg "heats_for" = some (.ref a)) (G_least_heat : Known P w K mg base "least_heat" 3 3 m_least_heat) : Known P w K mg base "heats_for" 4 3 m_heats_for := by
  have S := sc_heats_for
  rw [m_heats_for_eq]
  refine known_of F hm (okD F S rfl rfl fun cdv A outer s H E hr => ?_) (F.binds (ps := ["kitchen", "baking", "word"]) fun _ _ _ _ _ _ us hl => match us, hl with | [_, _, _], _ => rfl)
  have hu := hr.hu
  have hu1 := hr.hu1
  have hu5 := hr.hu5
  exact ⟨_, (xss_cons (xs_asg (xix hu1 (xix hu1 (xv 0) xint) (xix hu1 (xv 1) xint)) (xg_tup rfl (xgs_cons (xg_name (i := 4) S.nd) (xgs_cons (xg_name (i := 5) S.nd) xgs_nil))))
    (xss_cons (xs_set (i := 3) S.nd (xix hu1 (xix hu1 (xv 0) xint) xint))
    (xss_cons (xs_par (i := 6) (j := 7) rfl S.nd (xcons (xkn G_least_heat (hr.mono (by decide)) (xcons (xv 0) (xcons (xv 1) (xcons (xv 4) xnil)))) (xcons (xkn G_least_heat (hr.mono (by decide)) (xcons (xv 0) (xcons (xv 1) (xcons (xop q_add (xv 5) xint) xnil)))) xnil)) (by decide))
    (xss_cons (xs_if (xtcmp (qk_eq hu) (xv 2) xstr) (xss_one (xs_par (i := 8) (j := 9) rfl S.nd (xcons (xv 3) (xcons (xv 6) xnil)) (by decide))) (xss_one (xs_if (xtcmp (qk_eq hu) (xv 2) xstr) (xss_one (xs_par (i := 8) (j := 9) rfl S.nd (xcons (xv 6) (xcons (xv 7) xnil)) (by decide))) (xss_one (xs_par (i := 8) (j := 9) rfl S.nd (xcons (xv 7) (xcons xnon xnil)) (by decide))))))
    (xss_cons (xs_if (xwor (xtcmp q_is (xv 8) xnon) (xwor1 (xwand (xtcmp q_isnot (xv 9) xnon) (xwand1 (xtcmp q_ge (xv 8) (xv 9)))).toT)).toT (xss_one (xs_ret xnon)) xss_nil)
    (xss_one (xs_ret (xtup (xcons (xv 8) (xcons (xif (xtcmp q_is (xv 9) xnon) xnon (xop q_sub (xv 9) xint)) xnil))))))))))⟩
theorem sc_law_bag : FnScope ["_law_script", "_law_cell", "_law_great", "_law_small"] ["_law_script"] (defScope s_law_bag) := ⟨rfl, rfl, rfl, by decide +kernel, rfl, by decide +kernel, by decide +kernel⟩
theorem ok_law_bag (T : Facts K mg) {a : Addr} {fd : FuncData} (F : Fun K "_law_bag" "_law_bag" s_law_bag a fd) (hm : mg "_law_bag" = some (.ref a))  : Known P w K mg base "_law_bag" 1 1 m_law_bag := by
  have S := sc_law_bag
  rw [m_law_bag_eq]
  refine known_of F hm (okD F S rfl rfl fun cdv A outer s H E hr => ?_) (F.binds (ps := ["_law_script"]) fun _ _ _ _ _ _ us hl => match us, hl with | [_], _ => rfl)
  have hu := hr.hu
  have hu1 := hr.hu1
  have hu5 := hr.hu5
  exact ⟨_, (xss_cons (xs_par (i := 2) (j := 3) rfl S.nd (xcons xint (xcons (xop q_add xint (xop q_mul xint (xcallB q_len T.n_len (xcons (xv 0) xnil)))) xnil)) (by decide))
    (xss_cons (xs_kfor PassesOwn.never rfl (xi_seq (xsl (xv 0) xo_none (xo_some xint))) (xg_name (i := 1) S.nd) (xss_one (xs_if (xtcmp q_ge (xv 1) (xop q_pow xint xint)) (xss_one (xs_set (i := 2) S.nd (xop q_sub (xop q_add (xop q_mul (xv 2) xint) (xv 1)) (xop q_pow xint xint)))) (xss_cons (xs_set (i := 3) S.nd (xop q_add (xop q_add (xop q_mul (xv 3) xint) (xop q_mul xint (xcallB q_abs T.n_abs (xcons (xv 1) xnil)))) (xcallT q_int T.n_int (xcons (xcmp q_lt (xv 1) xint) xnil))))
    (xss_one (xs_set (i := 3) S.nd (xop q_mod (xcallT q_int T.n_int (xcons (xv 3) xnil)) xint)))))))
    (xss_one (xs_ret (xlst (xcons (xv 2) (xcons (xv 3) (xcons xint xnil))))))))⟩
theorem sc_law_draw : FnScope ["_law_bag_here", "_law_limit", "_law_mixed", "_law_digit"] ["_law_bag_here", "_law_limit"] (defScope s_law_draw) := ⟨rfl, rfl, rfl, by decide +kernel, rfl, by decide +kernel, by decide +kernel⟩
theorem ok_law_draw (T : Facts K mg) {a : Addr} {fd : FuncData} (F : Fun K "_law_draw" "_law_draw" s_law_draw a fd) (hm : mg "_law_draw" = some (.ref a))  : Known P w K mg base "_law_draw" 1 2 m_law_draw := by
  have S := sc_law_draw
  rw [m_law_draw_eq]
  refine known_of F hm (okD F S rfl rfl fun cdv A outer s H E hr => ?_) (F.binds (ps := ["_law_bag_here", "_law_limit"]) fun _ _ _ _ _ _ us hl => match us, hl with | [_, _], _ => rfl)
  have hu := hr.hu
  have hu1 := hr.hu1
  have hu5 := hr.hu5
  exact ⟨_, (xss_cons (xs_if (xtcmp q_gt (xix hu1 (xv 0) xint) xint) (xss_cons (xs_set (i := 3) S.nd (xop q_mod (xcallT q_int T.n_int (xcons (xix hu1 (xv 0) xint) xnil)) (xv 1)))
    (xss_cons (xs_asg (xop q_fdiv (xix hu1 (xv 0) xint) (xv 1)) (xg_sub hu1 (xv 0) xint))
    (xss_one (xs_ret (xv 3))))) xss_nil)
    (xss_cons (xs_asg (xop q_add (xix hu1 (xv 0) xint) xint) (xg_sub hu1 (xv 0) xint))
    (xss_cons (xs_set (i := 2) S.nd (xop q_add (xop q_mul (xix hu1 (xv 0) xint) xint) (xop q_mul xint (xix hu1 (xv 0) xint))))
    (xss_cons (xs_asg (xop q_mod (xcallT q_int T.n_int (xcons (xv 2) xnil)) xint) (xg_sub hu1 (xv 0) xint))
    (xss_one (xs_ret (xop q_mod (xop q_fdiv (xop q_mod (xcallT q_int T.n_int (xcons (xop q_mul (xix hu1 (xv 0) xint) (xix hu1 (xv 0) xint)) xnil)) xint) xint) (xv 1))))))))⟩
theorem sc_law_pick : FnScope ["_law_bag_here", "_law_items"] ["_law_bag_here", "_law_items"] (defScope s_law_pick) := ⟨rfl, rfl, rfl, by decide +kernel, rfl, by decide +kernel, by decide +kernel⟩
theorem ok_law_pick (T : Facts K mg) {a : Addr} {fd : FuncData} (F : Fun K "_law_pick" "_law_pick" s_law_pick a fd) (hm : mg "_law_pick" = some (.ref a)) (G_law_draw : Known P w K mg base "_law_draw" 1 2 m_law_draw) : Known P w K mg base "_law_pick" 2 2 m_law_pick := by
  have S := sc_law_pick
  rw [m_law_pick_eq]
  refine known_of F hm (okD F S rfl rfl fun cdv A outer s H E hr => ?_) (F.binds (ps := ["_law_bag_here", "_law_items"]) fun _ _ _ _ _ _ us hl => match us, hl with | [_, _], _ => rfl)
  have hu := hr.hu
  have hu1 := hr.hu1
  have hu5 := hr.hu5
  exact ⟨_, (xss_one (xs_ret (xix hu1 (xv 1) (xkn G_law_draw (hr.mono (by decide)) (xcons (xv 0) (xcons (xcallB q_len T.n_len (xcons (xv 1) xnil)) xnil))))))⟩
theorem sc_law_ups : FnScope ["_law_ovens", "_law_ties_here", "_law_found", "_law_one", "_law_turn", "_law_other", "_law_low", "_law_high", "_law_middle", "_law_key", "_law_bound"] ["_law_ovens", "_law_ties_here"] (defScope s_law_ups) := ⟨rfl, rfl, rfl, by decide +kernel, rfl, by decide +kernel, by decide +kernel⟩
theorem ok_law_ups (T : Facts K mg) {a : Addr} {fd : FuncData} (F : Fun K "_law_ups" "_law_ups" s_law_ups a fd) (hm : mg "_law_ups" = some (.ref a))  : Known P w K mg base "_law_ups" 1 2 m_law_ups := by
  have S := sc_law_ups
  rw [m_law_ups_eq]
  refine known_of F hm (okD F S rfl rfl fun cdv A outer s H E hr => ?_) (F.binds (ps := ["_law_ovens", "_law_ties_here"]) fun _ _ _ _ _ _ us hl => match us, hl with | [_, _], _ => rfl)
  have hu := hr.hu
  have hu1 := hr.hu1
  have hu5 := hr.hu5
  exact ⟨_, (xss_cons (xs_set (i := 2) S.nd xnewT)
    (xss_cons (xs_kfor PassesOwn.never rfl (xi_rng1 T.n_range (xcons (xv 0) xnil)) (xg_name (i := 3) S.nd) (xss_one (xs_kfor PassesOwn.never rfl (xi_rng1 T.n_range (xcons (xv 0) xnil)) (xg_name (i := 5) S.nd) (xss_one (xs_asg (xif (xtcmp (qk_eq hu) (xv 3) (xv 5)) xint xnon) (xg_sub hu1 (xv 2) (xtup (xcons (xv 3) (xcons (xv 5) xnil)))))))))
    (xss_cons (xs_kfor PassesOwn.never rfl (xi_seq (xv 1)) (xg_tup rfl (xgs_cons (xg_name (i := 3) S.nd) (xgs_cons (xg_name (i := 5) S.nd) (xgs_cons (xg_name (i := 6) S.nd) (xgs_cons (xg_name (i := 7) S.nd) xgs_nil))))) (xss_one (xs_kfor PassesOwn.never rfl (xi_seq (xlst (xcons (xtup (xcons (xtup (xcons (xv 3) (xcons (xv 5) xnil))) (xcons (xv 7) xnil))) (xcons (xtup (xcons (xtup (xcons (xv 5) (xcons (xv 3) xnil))) (xcons (xop q_sub xint (xv 6)) xnil))) xnil)))) (xg_tup rfl (xgs_cons (xg_name (i := 9) S.nd) (xgs_cons (xg_name (i := 10) S.nd) xgs_nil))) (xss_one (xs_if (xwor (xtcmp q_is (xix hu1 (xv 2) (xv 9)) xnon) (xwor1 (xtcmp q_lt (xv 10) (xix hu1 (xv 2) (xv 9))))).toT (xss_one (xs_asg (xv 10) (xg_sub hu1 (xv 2) (xv 9)))) xss_nil)))))
    (xss_cons (xs_kfor PassesOwn.never rfl (xi_rng1 T.n_range (xcons xint xnil)) (xg_name (i := 4) S.nd) (xss_one (xs_kfor PassesOwn.never rfl (xi_rng1 T.n_range (xcons (xv 0) xnil)) (xg_name (i := 8) S.nd) (xss_one (xs_kfor PassesOwn.never rfl (xi_rng1 T.n_range (xcons (xv 0) xnil)) (xg_name (i := 3) S.nd) (xss_one (xs_kfor PassesOwn.never rfl (xi_rng1 T.n_range (xcons (xv 0) xnil)) (xg_name (i := 5) S.nd) (xss_one (xs_if (xwand (xtcmp q_isnot (xix hu1 (xv 2) (xtup (xcons (xv 3) (xcons (xv 8) xnil)))) xnon) (xwand1 (xtcmp q_isnot (xix hu1 (xv 2) (xtup (xcons (xv 8) (xcons (xv 5) xnil)))) xnon))).toT (xss_cons (xs_set (i := 10) S.nd (xop q_add (xix hu1 (xv 2) (xtup (xcons (xv 3) (xcons (xv 8) xnil)))) (xix hu1 (xv 2) (xtup (xcons (xv 8) (xcons (xv 5) xnil))))))
    (xss_one (xs_if (xwor (xtcmp q_is (xix hu1 (xv 2) (xtup (xcons (xv 3) (xcons (xv 5) xnil)))) xnon) (xwor1 (xtcmp q_lt (xv 10) (xix hu1 (xv 2) (xtup (xcons (xv 3) (xcons (xv 5) xnil))))))).toT (xss_one (xs_asg (xv 10) (xg_sub hu1 (xv 2) (xtup (xcons (xv 3) (xcons (xv 5) xnil)))))) xss_nil))) xss_nil)))))))))
    (xss_one (xs_ret (xv 2)))))))⟩
theorem sc_law_is_torn : FnScope ["_law_ovens", "_law_ties_here", "_law_found", "_law_oven"] ["_law_ovens", "_law_ties_here"] (defScope s_law_is_torn) := ⟨rfl, rfl, rfl, by decide +kernel, rfl, by decide +kernel, by decide +kernel⟩
theorem ok_law_is_torn (T : Facts K mg) {a : Addr} {fd : FuncData} (F : Fun K "_law_is_torn" "_law_is_torn" s_law_is_torn a fd) (hm : mg "_law_is_torn" = some (.ref a)) (G_law_ups : Known P w K mg base "_law_ups" 1 2 m_law_ups) : Known P w K mg base "_law_is_torn" 2 2 m_law_is_torn := by
  have S := sc_law_is_torn
  rw [m_law_is_torn_eq]
  refine known_of F hm (okD F S rfl rfl fun cdv A outer s H E hr => ?_) (F.binds (ps := ["_law_ovens", "_law_ties_here"]) fun _ _ _ _ _ _ us hl => match us, hl with | [_, _], _ => rfl)
  have hu := hr.hu
  have hu1 := hr.hu1
  have hu5 := hr.hu5
  exact ⟨_, (xss_cons (xs_set (i := 2) S.nd (xkn G_law_ups (hr.mono (by decide)) (xcons (xv 0) (xcons (xv 1) xnil))))
    (xss_one (xs_ret (xcmp (qk_ne hu) (xklc (own := [("_law_oven", 3)]) rfl S.nd (xi_rng1 T.n_range (xcons (xv 0) xnil)) (blkOk_by (N := ["_law_ovens", "_law_ties_here", "_law_found", "_law_oven"]) (sc := defScope s_law_is_torn) (own := [("_law_oven", 3)]) (by decide +kernel)) (fun _ _ _ _ _ => (xg_name (i := 3) S.nd)) (own_name (by decide)) (by intro _ _ _ _ _; exact (xts_one (xtcmp q_lt (xix hu1 (xv 2) (xtup (xcons (xv 3) (xcons (xv 3) xnil)))) xint))) (by intro _ _ _ _ _; exact (xv 3))) (xlst xnil)))))⟩
theorem sc_law_ties : FnScope ["_law_bag_here", "_law_ovens", "_law_share", "_law_found", "_law_turn", "_law_one", "_law_other", "_law_low", "_law_tie", "_law_more"] ["_law_bag_here", "_law_ovens", "_law_share"] (defScope s_law_ties) := ⟨rfl, rfl, rfl, by decide +kernel, rfl, by decide +kernel, by decide +kernel⟩
theorem ok_law_ties (T : Facts K mg) {a : Addr} {fd : FuncData} (F : Fun K "_law_ties" "_law_ties" s_law_ties a fd) (hm : mg "_law_ties" = some (.ref a)) (G_law_draw : Known P w K mg base "_law_draw" 1 2 m_law_draw) (G_law_is_torn : Known P w K mg base "_law_is_torn" 2 2 m_law_is_torn) : Known P w K mg base "_law_ties" 3 3 m_law_ties := by
  have S := sc_law_ties
  rw [m_law_ties_eq]
  refine known_of F hm (okD F S rfl rfl fun cdv A outer s H E hr => ?_) (F.binds (ps := ["_law_bag_here", "_law_ovens", "_law_share"]) fun _ _ _ _ _ _ us hl => match us, hl with | [_, _, _], _ => rfl)
  have hu := hr.hu
  have hu1 := hr.hu1
  have hu5 := hr.hu5
  exact ⟨_, (xss_cons (xs_set (i := 3) S.nd (xlst xnil))
    (xss_cons (xs_kfor PassesOwn.never rfl (xi_rng1 T.n_range (xcons (xif (xtcmp q_gt (xv 1) xint) (xkn G_law_draw (hr.mono (by decide)) (xcons (xv 0) (xcons (xop q_mul xint (xv 1)) xnil))) xint) xnil)) (xg_name (i := 4) S.nd) (xss_cons (xs_set (i := 5) S.nd (xkn G_law_draw (hr.mono (by decide)) (xcons (xv 0) (xcons (xv 1) xnil))))
    (xss_cons (xs_set (i := 6) S.nd (xop q_mod (xcallT q_int T.n_int (xcons (xop q_add (xop q_add (xv 5) xint) (xkn G_law_draw (hr.mono (by decide)) (xcons (xv 0) (xcons (xop q_sub (xv 1) xint) xnil)))) xnil)) (xv 1)))
    (xss_cons (xs_set (i := 7) S.nd (xop q_mul (xop q_sub (xkn G_law_draw (hr.mono (by decide)) (xcons (xv 0) (xcons xint xnil))) xint) (xv 2)))
    (xss_cons (xs_set (i := 8) S.nd (xtup (xcons (xv 5) (xcons (xv 6) (xcons (xv 7) (xcons (xop q_add (xv 7) (xop q_mul (xkn G_law_draw (hr.mono (by decide)) (xcons (xv 0) (xcons xint xnil))) (xv 2))) xnil))))))
    (xss_cons (xs_set (i := 9) S.nd (xksortset rfl hu (xop q_add (xv 3) (xlst (xcons (xv 8) xnil))) T.n_sorted T.n_set))
    (xss_one (xs_if (xwand (xtcmp q_lt (xcallB q_len T.n_len (xcons (xv 9) xnil)) xint) (xwand1 (xtnot (xtval (xkn G_law_is_torn (hr.mono (by decide)) (xcons (xv 1) (xcons (xv 9) xnil))))))).toT (xss_one (xs_set (i := 3) S.nd (xv 9))) xss_nil))))))))
    (xss_one (xs_ret (xcallT q_tup T.n_tuple (xcons (xv 3) xnil))))))⟩
theorem sc_law_kitchen : FnScope ["_law_bag_here", "_law_dials_here", "_law_share", "_law_least", "_law_turn", "_law_slopes", "_law_room", "_law_ovens", "_law_dishes", "_law_low"] ["_law_bag_here", "_law_dials_here", "_law_share"] (defScope s_law_kitchen) := ⟨rfl, rfl, rfl, by decide +kernel, rfl, by decide +kernel, by decide +kernel⟩
theorem ok_law_kitchen (T : Facts K mg) {a : Addr} {fd : FuncData} (F : Fun K "_law_kitchen" "_law_kitchen" s_law_kitchen a fd) (hm : mg "_law_kitchen" = some (.ref a)) (G_law_draw : Known P w K mg base "_law_draw" 1 2 m_law_draw) (G_law_ties : Known P w K mg base "_law_ties" 3 3 m_law_ties) : Known P w K mg base "_law_kitchen" 4 3 m_law_kitchen := by
  have S := sc_law_kitchen
  rw [m_law_kitchen_eq]
  refine known_of F hm (okD F S rfl rfl fun cdv A outer s H E hr => ?_) (F.binds (ps := ["_law_bag_here", "_law_dials_here", "_law_share"]) fun _ _ _ _ _ _ us hl => match us, hl with | [_, _, _], _ => rfl)
  have hu := hr.hu
  have hu1 := hr.hu1
  have hu5 := hr.hu5
  exact ⟨_, (xss_cons (xs_set (i := 3) S.nd (xop q_mul (xkn G_law_draw (hr.mono (by decide)) (xcons (xv 0) (xcons xint xnil))) (xv 2)))
    (xss_cons (xs_par (i := 5) (j := 6) rfl S.nd (xcons (xtup (xcons (xv 3) (xcons (xop q_add (xv 3) (xop q_mul (xkn G_law_draw (hr.mono (by decide)) (xcons (xv 0) (xcons xint xnil))) (xv 2))) xnil))) (xcons (xtup (xcons (xop q_mul (xkn G_law_draw (hr.mono (by decide)) (xcons (xv 0) (xcons xint xnil))) (xv 2)) (xcons (xop q_add xint (xop q_mul (xkn G_law_draw (hr.mono (by decide)) (xcons (xv 0) (xcons xint xnil))) (xv 2))) xnil))) xnil)) (by decide))
    (xss_cons (xs_par (i := 7) (j := 8) rfl S.nd (xcons (xop q_add xint (xkn G_law_draw (hr.mono (by decide)) (xcons (xv 0) (xcons xint xnil)))) (xcons (xlst xnil) xnil)) (by decide))
    (xss_cons (xs_kfor PassesOwn.never rfl (xi_rng1 T.n_range (xcons (xop q_add xint (xkn G_law_draw (hr.mono (by decide)) (xcons (xv 0) (xcons xint xnil)))) xnil)) (xg_name (i := 4) S.nd) (xss_cons (xs_set (i := 9) S.nd (xop q_mul (xkn G_law_draw (hr.mono (by decide)) (xcons (xv 0) (xcons xint xnil))) (xv 2)))
    (xss_one (xs_expr (xappend (xv 8) (xtup (xcons (xv 9) (xcons (xop q_add (xv 9) (xop q_mul (xkn G_law_draw (hr.mono (by decide)) (xcons (xv 0) (xcons xint xnil))) (xv 2))) xnil))))))))
    (xss_one (xs_ret (xtup (xcons (xv 1) (xcons (xv 5) (xcons (xv 6) (xcons (xv 7) (xcons (xkn G_law_ties (hr.mono (by decide)) (xcons (xv 0) (xcons (xv 7) (xcons (xv 2) xnil)))) (xcons (xcallT q_tup T.n_tuple (xcons (xv 8) xnil)) xnil)))))))))))))⟩
theorem sc_law_dials : FnScope ["_law_bag_here"] ["_law_bag_here"] (defScope s_law_dials) := ⟨rfl, rfl, rfl, by decide +kernel, rfl, by decide +kernel, by decide +kernel⟩
theorem ok_law_dials (T : Facts K mg) {a : Addr} {fd : FuncData} (F : Fun K "_law_dials" "_law_dials" s_law_dials a fd) (hm : mg "_law_dials" = some (.ref a)) (G_law_pick : Known P w K mg base "_law_pick" 2 2 m_law_pick) : Known P w K mg base "_law_dials" 3 1 m_law_dials := by
  have S := sc_law_dials
  rw [m_law_dials_eq]
  refine known_of F hm (okD F S rfl rfl fun cdv A outer s H E hr => ?_) (F.binds (ps := ["_law_bag_here"]) fun _ _ _ _ _ _ us hl => match us, hl with | [_], _ => rfl)
  have hu := hr.hu
  have hu1 := hr.hu1
  have hu5 := hr.hu5
  exact ⟨_, (xss_one (xs_ret (xkn G_law_pick (hr.mono (by decide)) (xcons (xv 0) (xcons (xlst (xcons xint (xcons xint (xcons xint (xcons xint (xcons xint (xcons xint xnil))))))) xnil)))))⟩
theorem sc_law_baking : FnScope ["_law_bag_here", "_law_kitchen_here", "_law_most", "_law_start", "_law_minutes"] ["_law_bag_here", "_law_kitchen_here", "_law_most"] (defScope s_law_baking) := ⟨rfl, rfl, rfl, by decide +kernel, rfl, by decide +kernel, by decide +kernel⟩
theorem ok_law_baking (T : Facts K mg) {a : Addr} {fd : FuncData} (F : Fun K "_law_baking" "_law_baking" s_law_baking a fd) (hm : mg "_law_baking" = some (.ref a)) (G_law_draw : Known P w K mg base "_law_draw" 1 2 m_law_draw) (G_law_pick : Known P w K mg base "_law_pick" 2 2 m_law_pick) : Known P w K mg base "_law_baking" 3 3 m_law_baking := by
  have S := sc_law_baking
  rw [m_law_baking_eq]
  refine known_of F hm (okD F S rfl rfl fun cdv A outer s H E hr => ?_) (F.binds (ps := ["_law_bag_here", "_law_kitchen_here", "_law_most"]) fun _ _ _ _ _ _ us hl => match us, hl with | [_, _, _], _ => rfl)
  have hu := hr.hu
  have hu1 := hr.hu1
  have hu5 := hr.hu5
  exact ⟨_, (xss_cons (xs_par (i := 3) (j := 4) rfl S.nd (xcons (xkn G_law_pick (hr.mono (by decide)) (xcons (xv 0) (xcons (xlst (xcons xstr (xcons xstr xnil))) xnil))) (xcons (xop q_add xint (xkn G_law_draw (hr.mono (by decide)) (xcons (xv 0) (xcons (xv 2) xnil)))) xnil)) (by decide))
    (xss_one (xs_ret (xtup (xcons (xkn G_law_draw (hr.mono (by decide)) (xcons (xv 0) (xcons (xix hu1 (xv 1) xint) xnil))) (xcons (xkn G_law_draw (hr.mono (by decide)) (xcons (xv 0) (xcons (xop q_add (xix hu1 (xv 1) xint) xint) xnil))) (xcons (xv 3) (xcons (xv 4) (xcons (xkn G_law_draw (hr.mono (by decide)) (xcons (xv 0) (xcons (xcallB q_len T.n_len (xcons (xix hu1 (xv 1) xint) xnil)) xnil))) xnil)))))))))⟩
theorem sc_law_warmth : FnScope ["_law_kitchen_here", "_law_baking_here", "_law_heat", "_law_minutes", "_law_many", "_law_cold", "_law_rise"] ["_law_kitchen_here", "_law_baking_here", "_law_heat"] (defScope s_law_warmth) := ⟨rfl, rfl, rfl, by decide +kernel, rfl, by decide +kernel, by decide +kernel⟩
theorem ok_law_warmth (T : Facts K mg) {a : Addr} {fd : FuncData} (F : Fun K "_law_warmth" "_law_warmth" s_law_warmth a fd) (hm : mg "_law_warmth" = some (.ref a))  : Known P w K mg base "_law_warmth" 1 3 m_law_warmth := by
  have S := sc_law_warmth
  rw [m_law_warmth_eq]
  refine known_of F hm (okD F S rfl rfl fun cdv A outer s H E hr => ?_) (F.binds (ps := ["_law_kitchen_here", "_law_baking_here", "_law_heat"]) fun _ _ _ _ _ _ us hl => match us, hl with | [_, _, _], _ => rfl)
  have hu := hr.hu
  have hu1 := hr.hu1
  have hu5 := hr.hu5
  exact ⟨_, (xss_cons (xs_asg (xix hu1 (xv 0) xint) (xg_tup rfl (xgs_cons (xg_name (i := 5) S.nd) (xgs_cons (xg_name (i := 6) S.nd) xgs_nil))))
    (xss_cons (xs_set (i := 3) S.nd (xix hu1 (xv 1) xint))
    (xss_cons (xs_if (xtcmp (qk_eq hu) (xix hu1 (xv 1) xint) xstr) (xss_one (xs_ret (xop q_mul (xv 3) (xv 2)))) xss_nil)
    (xss_cons (xs_set (i := 4) S.nd (xcallB (q_min rfl) T.n_min (xcons (xv 3) (xcons (xop q_fdiv (xop q_sub (xv 2) (xv 5)) (xv 6)) xnil))))
    (xss_one (xs_ret (xop q_add (xop q_add (xop q_mul (xv 5) (xv 4)) (xop q_mul (xv 6) (xop q_fdiv (xop q_mul (xv 4) (xop q_add (xv 4) xint)) xint))) (xop q_mul (xop q_sub (xv 3) (xv 4)) (xv 2)))))))))⟩
theorem sc_law_first : FnScope ["_law_kitchen_here", "_law_baking_here", "_law_need", "_law_minutes", "_law_turn", "_law_cold", "_law_rise", "_law_low", "_law_high", "_law_middle"] ["_law_kitchen_here", "_law_baking_here", "_law_need"] (defScope s_law_first) := ⟨rfl, rfl, rfl, by decide +kernel, rfl, by decide +kernel, by decide +kernel⟩
theorem ok_law_first (T : Facts K mg) {a : Addr} {fd : FuncData} (F : Fun K "_law_first" "_law_first" s_law_first a fd) (hm : mg "_law_first" = some (.ref a)) (G_law_warmth : Known P w K mg base "_law_warmth" 1 3 m_law_warmth) : Known P w K mg base "_law_first" 2 3 m_law_first := by
  have S := sc_law_first
  rw [m_law_first_eq]
  refine known_of F hm (okD F S rfl rfl fun cdv A outer s H E hr => ?_) (F.binds (ps := ["_law_kitchen_here", "_law_baking_here", "_law_need"]) fun _ _ _ _ _ _ us hl => match us, hl with | [_, _, _], _ => rfl)
  have hu := hr.hu
  have hu1 := hr.hu1
  have hu5 := hr.hu5
  exact ⟨_, (xss_cons (xs_asg (xix hu1 (xv 0) xint) (xg_tup rfl (xgs_cons (xg_name (i := 5) S.nd) (xgs_cons (xg_name (i := 6) S.nd) xgs_nil))))
    (xss_cons (xs_set (i := 3) S.nd (xix hu1 (xv 1) xint))
    (xss_cons (xs_if (xtcmp (qk_eq hu) (xix hu1 (xv 1) xint) xstr) (xss_one (xs_ret (xcallB (q_max rfl) T.n_max (xcons (xv 5) (xcons (xop q_sub xint (xop q_fdiv (xop q_sub xint (xv 2)) (xv 3))) xnil))))) xss_nil)
    (xss_cons (xs_par (i := 7) (j := 8) rfl S.nd (xcons (xv 5) (xcons (xop q_add (xv 5) (xop q_mul (xv 6) (xv 3))) xnil)) (by decide))
    (xss_cons (xs_if (xtcmp q_lt (xkn G_law_warmth (hr.mono (by decide)) (xcons (xv 0) (xcons (xv 1) (xcons (xv 8) xnil)))) (xv 2)) (xss_one (xs_ret xnon)) xss_nil)
    (xss_cons (xs_kfor PassesOwn.never rfl (xi_rng1 T.n_range (xcons xint xnil)) (xg_name (i := 4) S.nd) (xss_cons (xs_if (xtcmp q_ge (xv 7) (xv 8)) (xss_one xs_break) xss_nil)
    (xss_cons (xs_set (i := 9) S.nd (xop q_fdiv (xop q_add (xv 7) (xv 8)) xint))
    (xss_one (xs_if (xtcmp q_lt (xkn G_law_warmth (hr.mono (by decide)) (xcons (xv 0) (xcons (xv 1) (xcons (xv 9) xnil)))) (xv 2)) (xss_one (xs_set (i := 7) S.nd (xop q_add (xv 9) xint))) (xss_one (xs_set (i := 8) S.nd (xv 9))))))))
    (xss_one (xs_ret (xv 7)))))))))⟩
theorem sc_law_heats : FnScope ["_law_kitchen_here", "_law_baking_here", "_law_word", "_law_low", "_law_high", "_law_first_here", "_law_last", "_law_begin", "_law_behind"] ["_law_kitchen_here", "_law_baking_here", "_law_word"] (defScope s_law_heats) := ⟨rfl, rfl, rfl, by decide +kernel, rfl, by decide +kernel, by decide +kernel⟩
theorem ok_law_heats (T : Facts K mg) {a : Addr} {fd : FuncData} (F : Fun K "_law_heats" "_law_heats" s_law_heats a fd) (hm : mg "_law_heats" = some (.ref a)) (G_law_first : Known P w K mg base "_law_first" 2 3 m_law_first) : Known P w K mg base "_law_heats" 3 3 m_law_heats := by
  have S := sc_law_heats
  rw [m_law_heats_eq]
  refine known_of F hm (okD F S rfl rfl fun cdv A outer s H E hr => ?_) (F.binds (ps := ["_law_kitchen_here", "_law_baking_here", "_law_word"]) fun _ _ _ _ _ _ us hl => match us, hl with | [_, _, _], _ => rfl)
  have hu := hr.hu
  have hu1 := hr.hu1
  have hu5 := hr.hu5
  exact ⟨_, (xss_cons (xs_asg (xix hu1 (xix hu1 (xv 0) xint) (xix hu1 (xv 1) xint)) (xg_tup rfl (xgs_cons (xg_name (i := 3) S.nd) (xgs_cons (xg_name (i := 4) S.nd) xgs_nil))))
    (xss_cons (xs_par (i := 5) (j := 6) rfl S.nd (xcons (xkn G_law_first (hr.mono (by decide)) (xcons (xv 0) (xcons (xv 1) (xcons (xv 3) xnil)))) (xcons (xkn G_law_first (hr.mono (by decide)) (xcons (xv 0) (xcons (xv 1) (xcons (xop q_add (xv 4) xint) xnil)))) xnil)) (by decide))
    (xss_cons (xs_asg (xix hu1 (xdisp (xpps_cons xstr (xtup (xcons (xix hu1 (xix hu1 (xv 0) xint) xint) (xcons (xv 5) xnil))) (xpps_cons xstr (xtup (xcons (xv 5) (xcons (xv 6) xnil))) (xpps_cons xstr (xtup (xcons (xv 6) (xcons xnon xnil))) xpps_nil)))) (xv 2)) (xg_tup rfl (xgs_cons (xg_name (i := 7) S.nd) (xgs_cons (xg_name (i := 8) S.nd) xgs_nil))))
    (xss_cons (xs_if (xwor (xtcmp q_is (xv 7) xnon) (xwor1 (xwand (xtcmp q_isnot (xv 8) xnon) (xwand1 (xtcmp q_ge (xv 7) (xv 8)))).toT)).toT (xss_one (xs_ret xnon)) xss_nil)
    (xss_one (xs_ret (xtup (xcons (xv 7) (xcons (xif (xtcmp q_is (xv 8) xnon) xnon (xop q_sub (xv 8) xint)) xnil)))))))))⟩
theorem sc_law_outcome : FnScope ["_law_kitchen_here", "_law_baking_here", "_law_heat", "_law_found", "_law_low", "_law_high"] ["_law_kitchen_here", "_law_baking_here", "_law_heat"] (defScope s_law_outcome) := ⟨rfl, rfl, rfl, by decide +kernel, rfl, by decide +kernel, by decide +kernel⟩
theorem ok_law_outcome (T : Facts K mg) {a : Addr} {fd : FuncData} (F : Fun K "_law_outcome" "_law_outcome" s_law_outcome a fd) (hm : mg "_law_outcome" = some (.ref a)) (G_law_warmth : Known P w K mg base "_law_warmth" 1 3 m_law_warmth) : Known P w K mg base "_law_outcome" 2 3 m_law_outcome := by
  have S := sc_law_outcome
  rw [m_law_outcome_eq]
  refine known_of F hm (okD F S rfl rfl fun cdv A outer s H E hr => ?_) (F.binds (ps := ["_law_kitchen_here", "_law_baking_here", "_law_heat"]) fun _ _ _ _ _ _ us hl => match us, hl with | [_, _, _], _ => rfl)
  have hu := hr.hu
  have hu1 := hr.hu1
  have hu5 := hr.hu5
  exact ⟨_, (xss_cons (xs_asg (xix hu1 (xix hu1 (xv 0) xint) (xix hu1 (xv 1) xint)) (xg_tup rfl (xgs_cons (xg_name (i := 4) S.nd) (xgs_cons (xg_name (i := 5) S.nd) xgs_nil))))
    (xss_cons (xs_set (i := 3) S.nd (xkn G_law_warmth (hr.mono (by decide)) (xcons (xv 0) (xcons (xv 1) (xcons (xv 2) xnil)))))
    (xss_one (xs_ret (xif (xtcmp q_lt (xv 3) (xv 4)) xstr (xif (xtcmp q_gt (xv 3) (xv 5)) xstr xstr))))))⟩
theorem sc_law : FnScope ["_law_script", "_law_bag_here", "_law_turn", "_law_share", "_law_kitchen_here", "_law_dishes", "_law_again", "_law_baking_here", "_law_heats_here", "_law_word", "_law_heat", "_law_due", "_law_end"] ["_law_script"] (defScope s_law) := ⟨rfl, rfl, rfl, by decide +kernel, rfl, by decide +kernel, by decide +kernel⟩
theorem fg_law (T : Facts K mg) {a : Addr} {fd : FuncData} (F : Fun K "law" "law" s_law a fd) (G_law_bag : Known P w K mg base "_law_bag" 1 1 m_law_bag) (G_law_pick : Known P w K mg base "_law_pick" 2 2 m_law_pick) (G_law_kitchen : Known P w K mg base "_law_kitchen" 4 3 m_law_kitchen) (G_law_dials : Known P w K mg base "_law_dials" 3 1 m_law_dials) (G_law_baking : Known P w K mg base "_law_baking" 3 3 m_law_baking) (G_law_draw : Known P w K mg base "_law_draw" 1 2 m_law_draw) (G_law_heats : Known P w K mg base "_law_heats" 3 3 m_law_heats) (G_heats_for : Known P w K mg base "heats_for" 4 3 m_heats_for) (G_law_outcome : Known P w K mg base "_law_outcome" 2 3 m_law_outcome) (G_outcome : Known P w K mg base "outcome" 3 3 m_outcome) : FnG P w K mg base CX0 5 a fd ["_law_script"] (spD K 1 (runD 13 b_law)) := by
  have S := sc_law
  refine okD F S rfl rfl fun cdv A outer s H E hr => ?_
  have hu := hr.hu
  have hu1 := hr.hu1
  have hu5 := hr.hu5
  exact ⟨_, (xss_cons (xs_set (i := 1) S.nd (xkn G_law_bag (hr.mono (by decide)) (xcons (xv 0) xnil)))
    (xss_cons (xs_kfor PassesOwn.never rfl (xi_rng1 T.n_range (xcons xint xnil)) (xg_name (i := 2) S.nd) (xss_cons (xs_set (i := 3) S.nd (xkn G_law_pick (hr.mono (by decide)) (xcons (xv 1) (xcons (xlst (xcons xint (xcons xint (xcons xint (xcons (xop q_pow xint xint) xnil))))) xnil))))
    (xss_cons (xs_set (i := 4) S.nd (xkn G_law_kitchen (hr.mono (by decide)) (xcons (xv 1) (xcons (xkn G_law_dials (hr.mono (by decide)) (xcons (xv 1) xnil)) (xcons (xv 3) xnil)))))
    (xss_cons (xs_set (i := 5) S.nd (xop q_add (xix hu1 (xv 4) xint) (xtup (xcons (xtup (xcons (xop q_pow xint xint) (xcons (xop q_pow xint xint) xnil))) (xcons (xtup (xcons xint (xcons xint xnil))) (xcons (xtup (xcons xint (xcons (xop q_pow xint xint) xnil))) xnil))))))
    (xss_cons (xs_set (i := 4) S.nd (xop q_add (xsl (xv 4) xo_none (xo_some xint)) (xtup (xcons (xv 5) xnil))))
    (xss_one (xs_kfor PassesOwn.never rfl (xi_rng1 T.n_range (xcons xint xnil)) (xg_name (i := 6) S.nd) (xss_cons (xs_set (i := 7) S.nd (xkn G_law_baking (hr.mono (by decide)) (xcons (xv 1) (xcons (xv 4) (xcons (xkn G_law_pick (hr.mono (by decide)) (xcons (xv 1) (xcons (xlst (xcons xint (xcons xint (xcons xint (xcons (xop q_pow xint xint) xnil))))) xnil))) xnil)))))
    (xss_cons (xs_set (i := 8) S.nd (xlst (xcons (xix hu1 (xix hu1 (xv 4) xint) xint) (xcons (xop q_add (xix hu1 (xix hu1 (xv 4) xint) xint) (xop q_mul (xkn G_law_draw (hr.mono (by decide)) (xcons (xv 1) (xcons xint xnil))) (xv 3))) (xcons (xop q_pow xint xint) xnil)))))
    (xss_cons (xs_kfor PassesOwn.never rfl (xi_seq (xlst (xcons xstr (xcons xstr (xcons xstr xnil))))) (xg_name (i := 9) S.nd) (xss_cons (xs_set (i := 11) S.nd (xkn G_law_heats (hr.mono (by decide)) (xcons (xv 4) (xcons (xv 7) (xcons (xv 9) xnil)))))
    (xss_cons (xs_if (xtcmp (qk_ne hu) (xcallB (qk_repr hr) T.n_repr (xcons (xlst (xcons (xkn G_heats_for (hr.mono (by decide)) (xcons (xv 4) (xcons (xv 7) (xcons (xv 9) xnil)))) (xcons (xkn G_heats_for (hr.mono (by decide)) (xcons (xv 4) (xcons (xv 7) (xcons (xv 9) xnil)))) xnil))) xnil)) (xcallB (qk_repr hr) T.n_repr (xcons (xlst (xcons (xv 11) (xcons (xv 11) xnil))) xnil))) (xss_one (xs_ret xbl)) xss_nil)
    (xss_one (xs_kfor PassesOwn.never rfl (xi_seq (xif (xtcmp q_isnot (xv 11) xnon) (xv 11) (xtup xnil))) (xg_name (i := 12) S.nd) (xss_one (xs_if (xtcmp q_isnot (xv 12) xnon) (xss_one (xs_set (i := 8) S.nd (xop q_add (xv 8) (xlst (xcons (xv 12) (xcons (xop q_add (xv 12) xint) (xcons (xcallB (q_max rfl) T.n_max (xcons (xix hu1 (xix hu1 (xv 4) xint) xint) (xcons (xop q_sub (xv 12) xint) xnil))) xnil))))))) xss_nil)))))))
    (xss_one (xs_kfor PassesOwn.never rfl (xi_seq (xv 8)) (xg_name (i := 10) S.nd) (xss_cons (xs_set (i := 11) S.nd (xkn G_law_outcome (hr.mono (by decide)) (xcons (xv 4) (xcons (xv 7) (xcons (xv 10) xnil)))))
    (xss_one (xs_if (xtcmp (qk_ne hu) (xcallB (qk_repr hr) T.n_repr (xcons (xlst (xcons (xkn G_outcome (hr.mono (by decide)) (xcons (xv 4) (xcons (xv 7) (xcons (xv 10) xnil)))) (xcons (xkn G_outcome (hr.mono (by decide)) (xcons (xv 4) (xcons (xv 7) (xcons (xv 10) xnil)))) xnil))) xnil)) (xcallB (qk_repr hr) T.n_repr (xcons (xlst (xcons (xv 11) (xcons (xv 11) xnil))) xnil))) (xss_one (xs_ret xbl)) xss_nil)))))))))))))))
    (xss_one (xs_ret xbl))))⟩
end
end DL

set_option linter.all false
set_option maxRecDepth 100000
namespace DL
open PySem PySem.Spec PyProof.Rows L2
theorem atI_nat {xs : List D} {v : Int} (h0 : 0 ≤ v) (h1 : v.toNat < xs.length) : atI xs v = some xs[v.toNat] := by
  unfold atI
  unfold ixN
  rw [if_pos h0, if_pos (by omega)]
  simp [h1]
/-! the bag -/
def Bag (h : DH) (b : Addr) : Prop := ∃ g s n : Int, h b = some (.lst [.int g, .int s, .int n])
/-- nothing but the bag is otherwise, and new things -/
def Fr (b : Addr) (h h' : DH) : Prop := (∀ a o, a ≠ b → h a = some o → h' a = some o) ∧ Bag h' b
theorem Fr.bag {b : Addr} {h h' : DH} (f : Fr b h h') : Bag h' b := f.2
theorem Fr.trans {b : Addr} {h h' h'' : DH} (f : Fr b h h') (g : Fr b h' h'') : Fr b h h'' := ⟨fun a o e q => g.1 a o e (f.1 a o e q), g.2⟩
theorem Bag.ext {b : Addr} {h h' : DH} (B : Bag h b) (x : Ext h h') : Bag h' b := let ⟨g, s, n, e⟩ := B; ⟨g, s, n, x _ _ e⟩
theorem Fr.of_ext {b : Addr} {h h' : DH} (B : Bag h b) (x : Ext h h') : Fr b h h' := ⟨fun a o _ q => x a o q, B.ext x⟩
theorem Bag.ne {b p : Addr} {h : DH} (B : Bag h b) (e : h p = none) : p ≠ b := fun z => by
  obtain ⟨g, s, n, q⟩ := B
  rw [z, q] at e; cases e
theorem fr_put {h : DH} {b : Addr} {g s n : Int} : Fr b h (hupd h b (.lst [.int g, .int s, .int n])) := ⟨fun a o e q => by rw [hupd_ne e]; exact q, g, s, n, hupd_same⟩
theorem sp_draw {h : DH} {b : Addr} {lim : Int} {Q : DK} (B : Bag h b) (h0 : 0 < lim) (h1 : lim < 2 ^ 250) (k : ∀ v h', Fr b h h' → 0 ≤ v → v < lim → Q (.int v) h') : m_law_draw [.loc b, .int lim] h Q := by
  obtain ⟨g, s, n, hb⟩ := B
  apply m_law_draw_ap
  (conv => whnf); (repeat (first | (refine w_need rfl ?_; (conv => whnf)) | (refine w_ix (by assumption) rfl ?_; (conv => whnf)) | (refine w_ix hupd_same rfl ?_; (conv => whnf)) | (refine w_setL (by assumption) rfl ?_; (conv => whnf)) | (refine w_setL hupd_same rfl ?_; (conv => whnf)) | (refine w_eqi ?_; (conv => whnf)) | (refine w_eqs ?_; (conv => whnf)) | (refine w_t (by first | rfl | decide | assumption) ?_; (conv => whnf)) | (refine w_f (by first | rfl | decide | assumption) ?_; (conv => whnf)) | (refine And.intro (by first | rfl | decide | assumption | omega | exact Nat.le_of_ble_eq_true rfl | exact mulR (by omega) (by omega) | exact mulL (by omega) (by omega) | exact divOk (by omega) (by omega) | exact Exists.intro _ (by assumption)) ?_; (conv => whnf))))
  refine w_ite (fun hg => ?_) (fun hg => ?_)
  · (conv => whnf); (repeat (first | (refine w_need rfl ?_; (conv => whnf)) | (refine w_ix (by assumption) rfl ?_; (conv => whnf)) | (refine w_ix hupd_same rfl ?_; (conv => whnf)) | (refine w_setL (by assumption) rfl ?_; (conv => whnf)) | (refine w_setL hupd_same rfl ?_; (conv => whnf)) | (refine w_eqi ?_; (conv => whnf)) | (refine w_eqs ?_; (conv => whnf)) | (refine w_t (by first | rfl | decide | assumption) ?_; (conv => whnf)) | (refine w_f (by first | rfl | decide | assumption) ?_; (conv => whnf)) | (refine And.intro (by first | rfl | decide | assumption | omega | exact Nat.le_of_ble_eq_true rfl | exact mulR (by omega) (by omega) | exact mulL (by omega) (by omega) | exact divOk (by omega) (by omega) | exact Exists.intro _ (by assumption)) ?_; (conv => whnf))))
    exact k _ _ fr_put (Int.emod_nonneg _ (by omega)) (Int.emod_lt_of_pos _ h0)
  · (conv => whnf); (repeat (first | (refine w_need rfl ?_; (conv => whnf)) | (refine w_ix (by assumption) rfl ?_; (conv => whnf)) | (refine w_ix hupd_same rfl ?_; (conv => whnf)) | (refine w_setL (by assumption) rfl ?_; (conv => whnf)) | (refine w_setL hupd_same rfl ?_; (conv => whnf)) | (refine w_eqi ?_; (conv => whnf)) | (refine w_eqs ?_; (conv => whnf)) | (refine w_t (by first | rfl | decide | assumption) ?_; (conv => whnf)) | (refine w_f (by first | rfl | decide | assumption) ?_; (conv => whnf)) | (refine And.intro (by first | rfl | decide | assumption | omega | exact Nat.le_of_ble_eq_true rfl | exact mulR (by omega) (by omega) | exact mulL (by omega) (by omega) | exact divOk (by omega) (by omega) | exact Exists.intro _ (by assumption)) ?_; (conv => whnf))))
    rw [hupd_hupd]
    exact k _ _ fr_put (Int.emod_nonneg _ (by omega)) (Int.emod_lt_of_pos _ h0)
theorem sp_pick {h : DH} {b p : Addr} {xs : List D} {Q : DK} (B : Bag h b) (hp : h p = some (.lst xs)) (hne : p ≠ b) (h0 : 0 < xs.length) (h1 : xs.length < 1000000) (k : ∀ x h', x ∈ xs → Fr b h h' → Q x h') : m_law_pick [.loc b, .loc p] h Q := by
  apply m_law_pick_ap
  (conv => whnf)
  refine w_need (v := .int xs.length) (by show lenO (h p) = _; rw [hp]; rfl) ?_
  (conv => whnf); (repeat (first | (refine w_need rfl ?_; (conv => whnf)) | (refine w_ix (by assumption) rfl ?_; (conv => whnf)) | (refine w_ix hupd_same rfl ?_; (conv => whnf)) | (refine w_setL (by assumption) rfl ?_; (conv => whnf)) | (refine w_setL hupd_same rfl ?_; (conv => whnf)) | (refine w_eqi ?_; (conv => whnf)) | (refine w_eqs ?_; (conv => whnf)) | (refine w_t (by first | rfl | decide | assumption) ?_; (conv => whnf)) | (refine w_f (by first | rfl | decide | assumption) ?_; (conv => whnf)) | (refine And.intro (by first | rfl | decide | assumption | omega | exact Nat.le_of_ble_eq_true rfl | exact mulR (by omega) (by omega) | exact mulL (by omega) (by omega) | exact divOk (by omega) (by omega) | exact Exists.intro _ (by assumption)) ?_; (conv => whnf))))
  refine sp_draw B (by omega) (by omega) fun v h' f v0 v1 => ?_
  (conv => whnf)
  have hp' := f.1 _ _ hne hp
  have hv : v.toNat < xs.length := by omega
  refine w_ix hp' (v := xs[v.toNat]) ?_ (k _ _ (List.getElem_mem _) f)
  show atI xs v = _
  exact atI_nat v0 hv
end DL

set_option linter.all false
set_option maxRecDepth 100000
namespace DL
open PySem PySem.Spec PyProof.Rows L2
theorem valD_put {κ : Type} [DecidableEq κ] (k k' : κ) (v : D) : ∀ kvs : List (κ × D), valD (putD kvs k v) k' = if k' = k then some v else valD kvs k' := by
  have hmap : ∀ kvs : List (κ × D), valD (kvs.map fun kv => if kv.1 = k then (kv.1, v) else kv) k' = if k' = k then (valD kvs k').map (fun _ => v) else valD kvs k' := by
    intro kvs
    induction kvs with
    | nil => simp [valD]
    | cons p ps ih =>
      unfold valD at ih ⊢
      rw [List.map_cons, List.find?_cons, List.find?_cons]
      by_cases e : p.1 = k
      · rw [if_pos e]
        by_cases e2 : p.1 = k'
        · subst e2
          rw [if_pos e]
          simp
        · have ne : ¬ k' = k := fun z => e2 (by rw [e, z])
          rw [if_neg ne] at ih ⊢
          simp only [decide_eq_true_eq, e2, decide_false]
          exact ih
      · rw [if_neg e]
        by_cases e2 : p.1 = k'
        · have ne : ¬ k' = k := fun z => e (by rw [← z, ← e2])
          simp [e2, ne]
        · simp only [e2, decide_false]
          exact ih
  have hany : ∀ kvs : List (κ × D), (kvs.any fun kv => decide (kv.1 = k)) = (valD kvs k).isSome := by
    intro kvs
    induction kvs with
    | nil => rfl
    | cons p ps ih =>
      unfold valD at ih ⊢
      rw [List.any_cons, List.find?_cons]
      by_cases e : p.1 = k
      · simp [e]
      · simp only [e, decide_false, Bool.false_or]; exact ih
  have happ : ∀ kvs : List (κ × D), valD (kvs ++ [(k, v)]) k' = (valD kvs k').or (if k' = k then some v else none) := by
    intro kvs
    unfold valD
    rw [List.find?_append]
    cases z : kvs.find? fun kv => decide (kv.1 = k') with
    | some x => simp
    | none =>
      by_cases e : k' = k
      · subst e; simp
      · have e' : ¬ k = k' := fun z => e z.symm
        simp [e, e']
  intro kvs
  unfold putD
  rw [hany]
  cases z : valD kvs k with
  | some x =>
    rw [if_pos (by rfl), hmap]
    by_cases e : k' = k
    · subst e; rw [if_pos rfl, if_pos rfl, z]; rfl
    · rw [if_neg e, if_neg e]
  | none =>
    rw [if_neg (by simp), happ]
    by_cases e : k' = k
    · subst e; rw [if_pos rfl, z, if_pos rfl]; rfl
    · rw [if_neg e, if_neg e]; cases valD kvs k' <;> rfl
theorem putD_length {κ : Type} [DecidableEq κ] (k : κ) (v : D) (kvs : List (κ × D)) : (putD kvs k v).length ≤ kvs.length + 1 := by
  unfold putD
  split <;> simp
theorem putD_length_of {κ : Type} [DecidableEq κ] {k : κ} {v w : D} {kvs : List (κ × D)} (e : valD kvs k = some w) : (putD kvs k v).length = kvs.length := by
  unfold putD
  have hany : (kvs.any fun kv => decide (kv.1 = k)) = true := by
    unfold valD at e
    obtain ⟨x, hx, _⟩ := Option.map_eq_some_iff.mp e
    exact List.any_eq_true.mpr ⟨x, List.mem_of_find?_eq_some hx, List.find?_some (p := fun kv : κ × D => decide (kv.1 = k)) hx⟩
  rw [if_pos hany]
  simp
/-- a table of None and ints over pairs below n, with ints where both are the same -/
def isNI (d : D) : Prop := d = .non ∨ ∃ z, d = .int z
structure Tab (n : Int) (kvs : List (List Key × D)) : Prop where
  at_ : ∀ i j : Int, 0 ≤ i → i < n → 0 ≤ j → j < n → ∃ v, valD kvs [.inl i, .inl j] = some v ∧ isNI v
  dg : ∀ i : Int, 0 ≤ i → i < n → ∃ z, valD kvs [.inl i, .inl i] = some (.int z)
  len : kvs.length ≤ 10000
theorem Tab.put {n : Int} {kvs : List (List Key × D)} (T : Tab n kvs) {i j : Int} (hi : 0 ≤ i) (hi2 : i < n) (hj : 0 ≤ j) (hj2 : j < n) (z : Int) : Tab n (putD kvs [.inl i, .inl j] (.int z)) := by
  obtain ⟨w, ew, _⟩ := T.at_ i j hi hi2 hj hj2
  refine ⟨fun i' j' a b c d => ?_, fun i' a b => ?_, by rw [putD_length_of ew]; exact T.len⟩
  · rw [valD_put]
    split
    · exact ⟨_, rfl, .inr ⟨z, rfl⟩⟩
    · exact T.at_ i' j' a b c d
  · rw [valD_put]
    split
    · exact ⟨z, rfl⟩
    · exact T.dg i' a b
theorem w_getT {a : Addr} {kvs : List (List Key × D)} {i j : Int} {v : D} {h : DH} {Q : DK} (e : h a = some (.dT kvs)) (g : valD kvs [.inl i, .inl j] = some v) (k : Q v h) : need (ixD h (.loc a) (.tup [.int i, .int j])) h Q := w_need (by show getO (h a) _ = _; rw [e]; exact g) k
theorem w_setT {a : Addr} {kvs : List (List Key × D)} {i j : Int} {v : D} {h : DH} {Q : DH → Prop} (e : h a = some (.dT kvs)) (l : kvs.length < sizeLine) (k : Q (hupd h a (.dT (putD kvs [.inl i, .inl j] v)))) : dSet (.loc a) (.tup [.int i, .int j]) v h Q := w_set (by rw [e]; show (if kvs.length < sizeLine then (keysD [.int i, .int j]).map fun k => DO.dT (putD kvs k v) else none) = _; rw [if_pos l]; rfl) k
/-- the first two loops' table -/
structure Tab0 (n m : Nat) (kvs : List (List Key × D)) : Prop where
  at_ : ∀ i j : Nat, i < m → j < n → ∃ v, valD kvs [.inl (i : Int), .inl (j : Int)] = some v ∧ isNI v ∧ (i = j → ∃ z, v = .int z)
theorem sp_bag {h : DH} {ns : List Int} {Q : DK} (hl : ns.length ≤ 63) (k : ∀ b h' g s, Ext h h' → h b = none → h' b = none → Q (.loc b) (hupd h' b (.lst [.int g, .int s, .int 0]))) : m_law_bag [.fls (ns.map D.int)] h Q := by
  apply m_law_bag_ap
  (conv => whnf); (repeat (first | (refine w_need rfl ?_; (conv => whnf)) | (refine w_ix (by assumption) rfl ?_; (conv => whnf)) | (refine w_ix hupd_same rfl ?_; (conv => whnf)) | (refine w_setL (by assumption) rfl ?_; (conv => whnf)) | (refine w_setL hupd_same rfl ?_; (conv => whnf)) | (refine w_eqi ?_; (conv => whnf)) | (refine w_eqs ?_; (conv => whnf)) | (refine w_t (by first | rfl | decide | assumption) ?_; (conv => whnf)) | (refine w_f (by first | rfl | decide | assumption) ?_; (conv => whnf)) | (refine And.intro (by first | rfl | decide | assumption | omega | exact Nat.le_of_ble_eq_true rfl | exact mulR (by omega) (by omega) | exact mulL (by omega) (by omega) | exact divOk (by omega) (by omega) | exact Exists.intro _ (by assumption)) ?_; (conv => whnf))))
  refine w_for ?_
  (conv => whnf)
  intro p hp
  (conv => whnf)
  rw [hupd_same]
  (conv => whnf)
  refine w_loop (I := fun _ τ h' => h' = hupd h p (.lst (cutD (ns.map D.int) none (some 63))) ∧ ∃ c g s, τ = [some (.fls (ns.map D.int)), c, some (.int g), some (.int s)]) ⟨rfl, none, _, _, rfl⟩ (fun _ _ _ _ e => by rw [e.1]; exact hupd_same) ?_ ?_
  · rintro i d τ h' nx e ⟨rfl, c, g, s, rfl⟩ hn
    have hd : ∃ z, d = .int z := by
      have := List.mem_of_getElem? e
      unfold cutD at this
      have := List.mem_of_mem_drop (List.mem_of_mem_take this)
      obtain ⟨z, _, e⟩ := List.mem_map.mp this
      exact ⟨z, e.symm⟩
    obtain ⟨z, rfl⟩ := hd
    (conv => whnf); (repeat (first | (refine w_need rfl ?_; (conv => whnf)) | (refine w_ix (by assumption) rfl ?_; (conv => whnf)) | (refine w_ix hupd_same rfl ?_; (conv => whnf)) | (refine w_setL (by assumption) rfl ?_; (conv => whnf)) | (refine w_setL hupd_same rfl ?_; (conv => whnf)) | (refine w_eqi ?_; (conv => whnf)) | (refine w_eqs ?_; (conv => whnf)) | (refine w_t (by first | rfl | decide | assumption) ?_; (conv => whnf)) | (refine w_f (by first | rfl | decide | assumption) ?_; (conv => whnf)) | (refine And.intro (by first | rfl | decide | assumption | omega | exact Nat.le_of_ble_eq_true rfl | exact mulR (by omega) (by omega) | exact mulL (by omega) (by omega) | exact divOk (by omega) (by omega) | exact Exists.intro _ (by assumption)) ?_; (conv => whnf))))
    refine w_ite (fun hz => ?_) (fun hz => ?_)
    · (conv => whnf); (repeat (first | (refine w_need rfl ?_; (conv => whnf)) | (refine w_ix (by assumption) rfl ?_; (conv => whnf)) | (refine w_ix hupd_same rfl ?_; (conv => whnf)) | (refine w_setL (by assumption) rfl ?_; (conv => whnf)) | (refine w_setL hupd_same rfl ?_; (conv => whnf)) | (refine w_eqi ?_; (conv => whnf)) | (refine w_eqs ?_; (conv => whnf)) | (refine w_t (by first | rfl | decide | assumption) ?_; (conv => whnf)) | (refine w_f (by first | rfl | decide | assumption) ?_; (conv => whnf)) | (refine And.intro (by first | rfl | decide | assumption | omega | exact Nat.le_of_ble_eq_true rfl | exact mulR (by omega) (by omega) | exact mulL (by omega) (by omega) | exact divOk (by omega) (by omega) | exact Exists.intro _ (by assumption)) ?_; (conv => whnf))))
      exact hn _ _ ⟨rfl, _, _, _, rfl⟩
    · (conv => whnf); (repeat (first | (refine w_need rfl ?_; (conv => whnf)) | (refine w_ix (by assumption) rfl ?_; (conv => whnf)) | (refine w_ix hupd_same rfl ?_; (conv => whnf)) | (refine w_setL (by assumption) rfl ?_; (conv => whnf)) | (refine w_setL hupd_same rfl ?_; (conv => whnf)) | (refine w_eqi ?_; (conv => whnf)) | (refine w_eqs ?_; (conv => whnf)) | (refine w_t (by first | rfl | decide | assumption) ?_; (conv => whnf)) | (refine w_f (by first | rfl | decide | assumption) ?_; (conv => whnf)) | (refine And.intro (by first | rfl | decide | assumption | omega | exact Nat.le_of_ble_eq_true rfl | exact mulR (by omega) (by omega) | exact mulL (by omega) (by omega) | exact divOk (by omega) (by omega) | exact Exists.intro _ (by assumption)) ?_; (conv => whnf))))
      exact hn _ _ ⟨rfl, _, _, _, rfl⟩
  · rintro τ h' ⟨rfl, c, g, s, rfl⟩
    (conv => whnf); (repeat (first | (refine w_need rfl ?_; (conv => whnf)) | (refine w_ix (by assumption) rfl ?_; (conv => whnf)) | (refine w_ix hupd_same rfl ?_; (conv => whnf)) | (refine w_setL (by assumption) rfl ?_; (conv => whnf)) | (refine w_setL hupd_same rfl ?_; (conv => whnf)) | (refine w_eqi ?_; (conv => whnf)) | (refine w_eqs ?_; (conv => whnf)) | (refine w_t (by first | rfl | decide | assumption) ?_; (conv => whnf)) | (refine w_f (by first | rfl | decide | assumption) ?_; (conv => whnf)) | (refine And.intro (by first | rfl | decide | assumption | omega | exact Nat.le_of_ble_eq_true rfl | exact mulR (by omega) (by omega) | exact mulL (by omega) (by omega) | exact divOk (by omega) (by omega) | exact Exists.intro _ (by assumption)) ?_; (conv => whnf))))
    intro b hb
    refine k b _ g s (ext_new hp) ?_ hb
    rw [hupd_ne (fun z => by subst z; rw [hupd_same] at hb; cases hb)] at hb
    exact hb
end DL

set_option linter.all false
set_option maxRecDepth 100000
namespace DL
open PySem PySem.Spec PyProof.Rows L2
def SeqIs (h : DH) (t : D) (ts : List D) : Prop := t = .tup ts ∨ ∃ p, t = .loc p ∧ h p = some (.lst ts)
theorem SeqIs.ext {h h' : DH} {t : D} {ts : List D} (S : SeqIs h t ts) (x : Ext h h') : SeqIs h' t ts := S.imp id fun ⟨p, e, q⟩ => ⟨p, e, x _ _ q⟩
theorem w_iseq {e : DE} {τ : DSt} {h0 h : DH} {R : List D → (DH → Prop) → DH → Prop} {t : D} {ts : List D} (S : SeqIs h0 t ts) (x : Ext h0 h) (k : ∀ G : DH → Prop, (∀ h', Ext h0 h' → G h') → R ts G h) (hv : ∀ Q : DK, Q t h → e τ h Q) : diSeq e τ h R := by
  refine hv _ ?_
  rcases S with rfl | ⟨p, rfl, q⟩
  · exact k _ fun _ _ => trivial
  · have e2 := x _ _ q
    show (match lstO (h p) with | some xs => R xs (fun h => h p = some (.lst xs)) h | none => False)
    rw [e2]
    exact k _ fun h' x' => x' _ _ q
/-- the table lies at q, all that was lies as it was -/
def TabAt (n : Int) (q : Addr) (h h' : DH) : Prop := Ext h h' ∧ h q = none ∧ ∃ kvs, h' q = some (.dT kvs) ∧ Tab n kvs
def Rect (n m l : Int) (kvs : List (List Key × D)) : Prop := ∀ i j : Int, 0 ≤ i → 0 ≤ j → j < n → (i < m ∨ (i = m ∧ j < l)) → ∃ v, valD kvs [.inl i, .inl j] = some v ∧ isNI v ∧ (i = j → ∃ z, v = .int z)
theorem Rect.put {n m l : Int} {kvs : List (List Key × D)} {v : D} (r : Rect n m l kvs) (hv : isNI v) (hd : m = l → ∃ z, v = .int z) : Rect n m (l + 1) (putD kvs [.inl m, .inl l] v) := fun i j a b c d => by
  rw [valD_put]
  split
  · rename_i e
    simp only [List.cons.injEq, Sum.inl.injEq, and_true] at e
    exact ⟨v, rfl, hv, fun z => hd (by omega)⟩
  · rename_i e
    refine r i j a b c ?_
    simp only [List.cons.injEq, Sum.inl.injEq, and_true, not_and] at e
    rcases d with d | ⟨d1, d2⟩
    · exact .inl d
    · exact .inr ⟨d1, by have := e d1; omega⟩
theorem Rect.tab {n l : Int} {kvs : List (List Key × D)} (r : Rect n n l kvs) (hl : kvs.length ≤ 10000) : Tab n kvs := ⟨fun i j a b c d => by
  obtain ⟨v, e, q, _⟩ := r i j a c d (.inl b)
  exact ⟨v, e, q⟩, fun i a b => by
  obtain ⟨v, e, q, w⟩ := r i i a a b (.inl b)
  obtain ⟨z, rfl⟩ := w rfl
  exact ⟨z, e⟩, hl⟩
theorem TabAt.put {n : Int} {q : Addr} {h h' : DH} {kvs : List (List Key × D)} {i j : Int} (x : Ext h h') (hq : h q = none) (T : Tab n kvs) (hi : 0 ≤ i) (hi2 : i < n) (hj : 0 ≤ j) (hj2 : j < n) (z : Int) : TabAt n q h (hupd h' q (.dT (putD kvs [.inl i, .inl j] (.int z)))) :=
  ⟨fun a o e => by rw [hupd_ne (fun y => by subst y; rw [hq] at e; cases e)]; exact x a o e, hq, _, hupd_same, T.put hi hi2 hj hj2 z⟩
theorem small_size {n : Nat} (h : n ≤ 1000000) : n < sizeLine := Nat.lt_of_le_of_lt h (Nat.lt_of_succ_le (Nat.le_of_ble_eq_true rfl))
def TieOk (n : Int) (d : D) : Prop := ∃ a b lo hi : Int, d = .tup [.int a, .int b, .int lo, .int hi] ∧ 0 ≤ a ∧ a < n ∧ 0 ≤ b ∧ b < n
theorem sp_ups {h : DH} {n : Int} {t : D} {ts : List D} {Q : DK} (hn : 0 ≤ n) (hn2 : n ≤ 100) (S : SeqIs h t ts) (ok : ∀ d ∈ ts, TieOk n d) (k : ∀ q h', TabAt n q h h' → Q (.loc q) h') : m_law_ups [.int n, t] h Q := by
  have sz : ∀ kvs, Tab n kvs → kvs.length < sizeLine := fun kvs T => small_size (Nat.le_trans T.len (by decide))
  apply m_law_ups_ap
  (conv => whnf)
  intro q hq
  (conv => whnf)
  refine w_for ?_
  (conv => whnf); (repeat (first | (refine w_need rfl ?_; (conv => whnf)) | (refine w_ix (by assumption) rfl ?_; (conv => whnf)) | (refine w_ix hupd_same rfl ?_; (conv => whnf)) | (refine w_setL (by assumption) rfl ?_; (conv => whnf)) | (refine w_setL hupd_same rfl ?_; (conv => whnf)) | (refine w_eqi ?_; (conv => whnf)) | (refine w_eqs ?_; (conv => whnf)) | (refine w_t (by first | rfl | decide | assumption) ?_; (conv => whnf)) | (refine w_f (by first | rfl | decide | assumption) ?_; (conv => whnf)) | (refine And.intro (by first | rfl | decide | assumption | omega | exact Nat.le_of_ble_eq_true rfl | exact mulR (by omega) (by omega) | exact mulL (by omega) (by omega) | exact divOk (by omega) (by omega) | exact Exists.intro _ (by assumption)) ?_; (conv => whnf))))
  refine w_range (I := fun m τ h' => ∃ kvs a3 a5, h' = hupd h q (.dT kvs) ∧ τ = [some (.int n), some t, some (.loc q), a3, none, a5, none, none, none, none, none] ∧ Rect n m 0 kvs ∧ kvs.length ≤ m * n.toNat) ⟨[], none, none, rfl, rfl, fun i j a b c d => by omega, by simp⟩ ?_ ?_
  · rintro m τ h' nx hm ⟨kvs, a3, a5, rfl, rfl, R, L⟩ hnx
    (conv => whnf)
    refine w_for ?_
    (conv => whnf); (repeat (first | (refine w_need rfl ?_; (conv => whnf)) | (refine w_ix (by assumption) rfl ?_; (conv => whnf)) | (refine w_ix hupd_same rfl ?_; (conv => whnf)) | (refine w_setL (by assumption) rfl ?_; (conv => whnf)) | (refine w_setL hupd_same rfl ?_; (conv => whnf)) | (refine w_eqi ?_; (conv => whnf)) | (refine w_eqs ?_; (conv => whnf)) | (refine w_t (by first | rfl | decide | assumption) ?_; (conv => whnf)) | (refine w_f (by first | rfl | decide | assumption) ?_; (conv => whnf)) | (refine And.intro (by first | rfl | decide | assumption | omega | exact Nat.le_of_ble_eq_true rfl | exact mulR (by omega) (by omega) | exact mulL (by omega) (by omega) | exact divOk (by omega) (by omega) | exact Exists.intro _ (by assumption)) ?_; (conv => whnf))))
    refine w_range (I := fun l τ h' => ∃ kvs a5, h' = hupd h q (.dT kvs) ∧ τ = [some (.int n), some t, some (.loc q), some (.int (0 + m)), none, a5, none, none, none, none, none] ∧ Rect n m l kvs ∧ kvs.length ≤ m * n.toNat + l) ⟨kvs, a5, rfl, rfl, R, L⟩ ?_ ?_
    · rintro l τ h' nx2 hl ⟨kvs, a5, rfl, rfl, R, L⟩ hnx2
      have L2 : m * n.toNat + l < 10000 := by
        have h1 : m * n.toNat + n.toNat ≤ n.toNat * n.toNat := by
          have := Nat.mul_le_mul_right n.toNat (show m + 1 ≤ n.toNat from hm)
          rw [Nat.add_mul, Nat.one_mul] at this
          exact this
        have h2 : n.toNat * n.toNat ≤ 100 * 100 := Nat.mul_le_mul (by omega) (by omega)
        omega
      have fin : ∀ v : D, isNI v → ((m : Int) = l → ∃ z, v = .int z) → nx2 [some (.int n), some t, some (.loc q), some (.int (0 + m)), none, some (.int (0 + l)), none, none, none, none, none] (hupd (hupd h q (.dT kvs)) q (.dT (putD kvs [.inl (0 + (m : Int)), .inl (0 + (l : Int))] v))) := fun v hv hd => by
        refine hnx2 _ _ ⟨_, _, hupd_hupd, rfl, ?_, ?_⟩
        · rw [Int.zero_add, Int.zero_add]
          have := R.put hv hd
          exact_mod_cast this
        · have := putD_length [Sum.inl (0 + (m : Int)), Sum.inl (0 + (l : Int))] v kvs
          omega
      (conv => whnf)
      refine w_eqi ?_
      (conv => whnf)
      refine w_ite (fun e => ?_) (fun e => ?_)
      · (conv => whnf); (repeat (first | (refine w_need rfl ?_; (conv => whnf)) | (refine w_ix (by assumption) rfl ?_; (conv => whnf)) | (refine w_ix hupd_same rfl ?_; (conv => whnf)) | (refine w_setL (by assumption) rfl ?_; (conv => whnf)) | (refine w_setL hupd_same rfl ?_; (conv => whnf)) | (refine w_eqi ?_; (conv => whnf)) | (refine w_eqs ?_; (conv => whnf)) | (refine w_t (by first | rfl | decide | assumption) ?_; (conv => whnf)) | (refine w_f (by first | rfl | decide | assumption) ?_; (conv => whnf)) | (refine And.intro (by first | rfl | decide | assumption | omega | exact Nat.le_of_ble_eq_true rfl | exact mulR (by omega) (by omega) | exact mulL (by omega) (by omega) | exact divOk (by omega) (by omega) | exact Exists.intro _ (by assumption)) ?_; (conv => whnf))))
        refine w_setT hupd_same (small_size (n := kvs.length) (by omega)) ?_
        (conv => whnf)
        exact fin _ (.inr ⟨_, rfl⟩) fun _ => ⟨_, rfl⟩
      · (conv => whnf); (repeat (first | (refine w_need rfl ?_; (conv => whnf)) | (refine w_ix (by assumption) rfl ?_; (conv => whnf)) | (refine w_ix hupd_same rfl ?_; (conv => whnf)) | (refine w_setL (by assumption) rfl ?_; (conv => whnf)) | (refine w_setL hupd_same rfl ?_; (conv => whnf)) | (refine w_eqi ?_; (conv => whnf)) | (refine w_eqs ?_; (conv => whnf)) | (refine w_t (by first | rfl | decide | assumption) ?_; (conv => whnf)) | (refine w_f (by first | rfl | decide | assumption) ?_; (conv => whnf)) | (refine And.intro (by first | rfl | decide | assumption | omega | exact Nat.le_of_ble_eq_true rfl | exact mulR (by omega) (by omega) | exact mulL (by omega) (by omega) | exact divOk (by omega) (by omega) | exact Exists.intro _ (by assumption)) ?_; (conv => whnf))))
        refine w_setT hupd_same (small_size (n := kvs.length) (by omega)) ?_
        (conv => whnf)
        exact fin _ (.inl rfl) fun z => by omega
    · rintro τ h' ⟨kvs, a5, rfl, rfl, R, L⟩
      refine hnx _ _ ⟨kvs, _, _, rfl, rfl, ?_, ?_⟩
      · intro i j a b c d
        refine R i j a b c ?_
        push_cast at d
        have : (n.toNat : Int) = n := Int.toNat_of_nonneg hn
        omega
      · rw [Nat.add_mul, Nat.one_mul]; exact L
  · rintro τ h' ⟨kvs, a3, a5, rfl, rfl, R, L⟩
    have T0 : TabAt n q h (hupd h q (.dT kvs)) := by
      refine ⟨ext_new hq, hq, kvs, hupd_same, Rect.tab (l := 0) ?_ (Nat.le_trans L ?_)⟩
      · rw [Int.toNat_of_nonneg hn] at R; exact R
      · exact (Nat.mul_le_mul (show n.toNat ≤ 100 by omega) (show n.toNat ≤ 100 by omega) : n.toNat * n.toNat ≤ 100 * 100)
    (conv => whnf)
    refine w_for ?_
    refine w_iseq S (ext_new hq) (fun G hG => ?_) (fun Q w => w)
    refine w_loop (I := fun _ τ h' => TabAt n q h h' ∧ ∃ a3 a5 a6 a7 a9 a10, τ = [some (.int n), some t, some (.loc q), a3, none, a5, a6, a7, none, a9, a10]) ⟨T0, _, _, _, _, _, _, rfl⟩ (fun _ _ h' _ I => hG h' I.1.1) ?_ ?_
    · rintro i d τ h' nx ed ⟨T, a3, a5, a6, a7, a9, a10, rfl⟩ hnx
      obtain ⟨a, b, lo, hi, rfl, ha, ha2, hb, hb2⟩ := ok d (List.mem_of_getElem? ed)
      (conv => whnf); (repeat (first | (refine w_need rfl ?_; (conv => whnf)) | (refine w_ix (by assumption) rfl ?_; (conv => whnf)) | (refine w_ix hupd_same rfl ?_; (conv => whnf)) | (refine w_setL (by assumption) rfl ?_; (conv => whnf)) | (refine w_setL hupd_same rfl ?_; (conv => whnf)) | (refine w_eqi ?_; (conv => whnf)) | (refine w_eqs ?_; (conv => whnf)) | (refine w_t (by first | rfl | decide | assumption) ?_; (conv => whnf)) | (refine w_f (by first | rfl | decide | assumption) ?_; (conv => whnf)) | (refine And.intro (by first | rfl | decide | assumption | omega | exact Nat.le_of_ble_eq_true rfl | exact mulR (by omega) (by omega) | exact mulL (by omega) (by omega) | exact divOk (by omega) (by omega) | exact Exists.intro _ (by assumption)) ?_; (conv => whnf))))
      refine w_for ?_
      (conv => whnf); (repeat (first | (refine w_need rfl ?_; (conv => whnf)) | (refine w_ix (by assumption) rfl ?_; (conv => whnf)) | (refine w_ix hupd_same rfl ?_; (conv => whnf)) | (refine w_setL (by assumption) rfl ?_; (conv => whnf)) | (refine w_setL hupd_same rfl ?_; (conv => whnf)) | (refine w_eqi ?_; (conv => whnf)) | (refine w_eqs ?_; (conv => whnf)) | (refine w_t (by first | rfl | decide | assumption) ?_; (conv => whnf)) | (refine w_f (by first | rfl | decide | assumption) ?_; (conv => whnf)) | (refine And.intro (by first | rfl | decide | assumption | omega | exact Nat.le_of_ble_eq_true rfl | exact mulR (by omega) (by omega) | exact mulL (by omega) (by omega) | exact divOk (by omega) (by omega) | exact Exists.intro _ (by assumption)) ?_; (conv => whnf))))
      intro p hp
      (conv => whnf)
      rw [hupd_same]
      (conv => whnf)
      obtain ⟨x, hq, kvs, e, T⟩ := T
      have hpq : p ≠ q := fun z => by rw [z, e] at hp; cases hp
      refine w_loop (I := fun _ τ h' => TabAt n q h h' ∧ h' p = some (.lst [.tup [.tup [.int a, .int b], .int hi], .tup [.tup [.int b, .int a], .int (0 - lo)]]) ∧ ∃ a9 a10, τ = [some (.int n), some t, some (.loc q), some (.int a), none, some (.int b), some (.int lo), some (.int hi), none, a9, a10]) ⟨⟨x.trans (ext_new hp), hq, kvs, by rw [hupd_ne (fun z => hpq z.symm)]; exact e, T⟩, hupd_same, _, _, rfl⟩ (fun _ _ h' _ I => I.2.1) ?_ ?_
      · rintro i d τ h' nx2 ed ⟨⟨x, hq, kvs, e, T⟩, hp2, a9, a10, rfl⟩ hnx2
        obtain ⟨u, v, z, rfl, hu, hu2, hv, hv2⟩ : ∃ u v z : Int, d = .tup [.tup [.int u, .int v], .int z] ∧ 0 ≤ u ∧ u < n ∧ 0 ≤ v ∧ v < n := by
          have := List.mem_of_getElem? ed
          simp only [List.mem_cons, List.not_mem_nil, or_false] at this
          rcases this with rfl | rfl
          · exact ⟨a, b, hi, rfl, ha, ha2, hb, hb2⟩
          · exact ⟨b, a, 0 - lo, rfl, hb, hb2, ha, ha2⟩
        obtain ⟨w, ew, hw⟩ := T.at_ u v hu hu2 hv hv2
        (conv => whnf); (repeat (first | (refine w_need rfl ?_; (conv => whnf)) | (refine w_ix (by assumption) rfl ?_; (conv => whnf)) | (refine w_ix hupd_same rfl ?_; (conv => whnf)) | (refine w_setL (by assumption) rfl ?_; (conv => whnf)) | (refine w_setL hupd_same rfl ?_; (conv => whnf)) | (refine w_eqi ?_; (conv => whnf)) | (refine w_eqs ?_; (conv => whnf)) | (refine w_t (by first | rfl | decide | assumption) ?_; (conv => whnf)) | (refine w_f (by first | rfl | decide | assumption) ?_; (conv => whnf)) | (refine And.intro (by first | rfl | decide | assumption | omega | exact Nat.le_of_ble_eq_true rfl | exact mulR (by omega) (by omega) | exact mulL (by omega) (by omega) | exact divOk (by omega) (by omega) | exact Exists.intro _ (by assumption)) ?_; (conv => whnf))))
        refine w_getT e ew ?_
        (conv => whnf)
        have fin : nx2 [some (.int n), some t, some (.loc q), some (.int a), none, some (.int b), some (.int lo), some (.int hi), none, some (.tup [.int u, .int v]), some (.int z)] (hupd h' q (.dT (putD kvs [.inl u, .inl v] (.int z)))) := hnx2 _ _ ⟨TabAt.put x hq T hu hu2 hv hv2 z, by rw [hupd_ne hpq]; exact hp2, _, _, rfl⟩
        have fin2 : nx2 [some (.int n), some t, some (.loc q), some (.int a), none, some (.int b), some (.int lo), some (.int hi), none, some (.tup [.int u, .int v]), some (.int z)] h' := hnx2 _ _ ⟨⟨x, hq, kvs, e, T⟩, hp2, _, _, rfl⟩
        rcases hw with rfl | ⟨y, rfl⟩
        · refine w_t rfl ?_
          (conv => whnf)
          refine w_t rfl ?_
          (conv => whnf)
          refine w_setT e (sz _ T) ?_
          exact fin
        · refine w_f rfl ?_
          (conv => whnf)
          refine w_getT e ew ?_
          (conv => whnf)
          refine w_ite (fun c => ?_) (fun c => ?_)
          · (conv => whnf)
            refine w_setT e (sz _ T) ?_
            exact fin
          · (conv => whnf)
            exact fin2
      · rintro τ h' ⟨T, hp2, a9, a10, rfl⟩
        exact hnx _ _ ⟨T, _, _, _, _, _, _, rfl⟩
    · rintro τ h' ⟨T, a3, a5, a6, a7, a9, a10, rfl⟩
      (conv => whnf)
      refine w_for ?_
      (conv => whnf); (repeat (first | (refine w_need rfl ?_; (conv => whnf)) | (refine w_ix (by assumption) rfl ?_; (conv => whnf)) | (refine w_ix hupd_same rfl ?_; (conv => whnf)) | (refine w_setL (by assumption) rfl ?_; (conv => whnf)) | (refine w_setL hupd_same rfl ?_; (conv => whnf)) | (refine w_eqi ?_; (conv => whnf)) | (refine w_eqs ?_; (conv => whnf)) | (refine w_t (by first | rfl | decide | assumption) ?_; (conv => whnf)) | (refine w_f (by first | rfl | decide | assumption) ?_; (conv => whnf)) | (refine And.intro (by first | rfl | decide | assumption | omega | exact Nat.le_of_ble_eq_true rfl | exact mulR (by omega) (by omega) | exact mulL (by omega) (by omega) | exact divOk (by omega) (by omega) | exact Exists.intro _ (by assumption)) ?_; (conv => whnf))))
      refine w_range (I := fun _ τ h' => TabAt n q h h' ∧ ∃ a3 a4 a5 a8 a10, τ = [some (.int n), some t, some (.loc q), a3, a4, a5, a6, a7, a8, a9, a10]) ⟨T, _, _, _, _, _, rfl⟩ ?_ ?_
      · rintro r τ h' nx hr ⟨T, a3, a4, a5, a8, a10, rfl⟩ hnx
        (conv => whnf)
        refine w_for ?_
        (conv => whnf); (repeat (first | (refine w_need rfl ?_; (conv => whnf)) | (refine w_ix (by assumption) rfl ?_; (conv => whnf)) | (refine w_ix hupd_same rfl ?_; (conv => whnf)) | (refine w_setL (by assumption) rfl ?_; (conv => whnf)) | (refine w_setL hupd_same rfl ?_; (conv => whnf)) | (refine w_eqi ?_; (conv => whnf)) | (refine w_eqs ?_; (conv => whnf)) | (refine w_t (by first | rfl | decide | assumption) ?_; (conv => whnf)) | (refine w_f (by first | rfl | decide | assumption) ?_; (conv => whnf)) | (refine And.intro (by first | rfl | decide | assumption | omega | exact Nat.le_of_ble_eq_true rfl | exact mulR (by omega) (by omega) | exact mulL (by omega) (by omega) | exact divOk (by omega) (by omega) | exact Exists.intro _ (by assumption)) ?_; (conv => whnf))))
        refine w_range (I := fun _ τ h' => TabAt n q h h' ∧ ∃ a3 a4 a5 a8 a10, τ = [some (.int n), some t, some (.loc q), a3, a4, a5, a6, a7, a8, a9, a10]) ⟨T, _, _, _, _, _, rfl⟩ ?_ ?_
        · rintro m τ h' nx hm ⟨T, a3, a4, a5, a8, a10, rfl⟩ hnx
          (conv => whnf)
          refine w_for ?_
          (conv => whnf); (repeat (first | (refine w_need rfl ?_; (conv => whnf)) | (refine w_ix (by assumption) rfl ?_; (conv => whnf)) | (refine w_ix hupd_same rfl ?_; (conv => whnf)) | (refine w_setL (by assumption) rfl ?_; (conv => whnf)) | (refine w_setL hupd_same rfl ?_; (conv => whnf)) | (refine w_eqi ?_; (conv => whnf)) | (refine w_eqs ?_; (conv => whnf)) | (refine w_t (by first | rfl | decide | assumption) ?_; (conv => whnf)) | (refine w_f (by first | rfl | decide | assumption) ?_; (conv => whnf)) | (refine And.intro (by first | rfl | decide | assumption | omega | exact Nat.le_of_ble_eq_true rfl | exact mulR (by omega) (by omega) | exact mulL (by omega) (by omega) | exact divOk (by omega) (by omega) | exact Exists.intro _ (by assumption)) ?_; (conv => whnf))))
          refine w_range (I := fun _ τ h' => TabAt n q h h' ∧ ∃ a3 a4 a5 a10, τ = [some (.int n), some t, some (.loc q), a3, a4, a5, a6, a7, some (.int (0 + m)), a9, a10]) ⟨T, _, _, _, _, rfl⟩ ?_ ?_
          · rintro i τ h' nx hi ⟨T, a3, a4, a5, a10, rfl⟩ hnx
            (conv => whnf)
            refine w_for ?_
            (conv => whnf); (repeat (first | (refine w_need rfl ?_; (conv => whnf)) | (refine w_ix (by assumption) rfl ?_; (conv => whnf)) | (refine w_ix hupd_same rfl ?_; (conv => whnf)) | (refine w_setL (by assumption) rfl ?_; (conv => whnf)) | (refine w_setL hupd_same rfl ?_; (conv => whnf)) | (refine w_eqi ?_; (conv => whnf)) | (refine w_eqs ?_; (conv => whnf)) | (refine w_t (by first | rfl | decide | assumption) ?_; (conv => whnf)) | (refine w_f (by first | rfl | decide | assumption) ?_; (conv => whnf)) | (refine And.intro (by first | rfl | decide | assumption | omega | exact Nat.le_of_ble_eq_true rfl | exact mulR (by omega) (by omega) | exact mulL (by omega) (by omega) | exact divOk (by omega) (by omega) | exact Exists.intro _ (by assumption)) ?_; (conv => whnf))))
            refine w_range (I := fun _ τ h' => TabAt n q h h' ∧ ∃ a4 a5 a10, τ = [some (.int n), some t, some (.loc q), some (.int (0 + i)), a4, a5, a6, a7, some (.int (0 + m)), a9, a10]) ⟨T, _, _, _, rfl⟩ ?_ ?_
            · rintro j τ h' nx hj ⟨⟨x, hq, kvs, e, T⟩, a4, a5, a10, rfl⟩ hnx
              have fin : ∀ u, nx [some (.int n), some t, some (.loc q), some (.int (0 + i)), a4, some (.int (0 + j)), a6, a7, some (.int (0 + m)), a9, u] h' := fun u => hnx _ _ ⟨⟨x, hq, kvs, e, T⟩, _, _, _, rfl⟩
              have fin2 : ∀ z : Int, nx [some (.int n), some t, some (.loc q), some (.int (0 + i)), a4, some (.int (0 + j)), a6, a7, some (.int (0 + m)), a9, some (.int z)] (hupd h' q (.dT (putD kvs [.inl (0 + (i : Int)), .inl (0 + (j : Int))] (.int z)))) := fun z => hnx _ _ ⟨TabAt.put x hq T (by omega) (by omega) (by omega) (by omega) z, _, _, _, rfl⟩
              obtain ⟨w1, e1, hw1⟩ := T.at_ (0 + i) (0 + m) (by omega) (by omega) (by omega) (by omega)
              obtain ⟨w2, e2, hw2⟩ := T.at_ (0 + m) (0 + j) (by omega) (by omega) (by omega) (by omega)
              obtain ⟨w3, e3, hw3⟩ := T.at_ (0 + i) (0 + j) (by omega) (by omega) (by omega) (by omega)
              (conv => whnf); (repeat (first | (refine w_need rfl ?_; (conv => whnf)) | (refine w_ix (by assumption) rfl ?_; (conv => whnf)) | (refine w_ix hupd_same rfl ?_; (conv => whnf)) | (refine w_setL (by assumption) rfl ?_; (conv => whnf)) | (refine w_setL hupd_same rfl ?_; (conv => whnf)) | (refine w_eqi ?_; (conv => whnf)) | (refine w_eqs ?_; (conv => whnf)) | (refine w_t (by first | rfl | decide | assumption) ?_; (conv => whnf)) | (refine w_f (by first | rfl | decide | assumption) ?_; (conv => whnf)) | (refine And.intro (by first | rfl | decide | assumption | omega | exact Nat.le_of_ble_eq_true rfl | exact mulR (by omega) (by omega) | exact mulL (by omega) (by omega) | exact divOk (by omega) (by omega) | exact Exists.intro _ (by assumption)) ?_; (conv => whnf))))
              refine w_getT e e1 ?_
              (conv => whnf); (repeat (first | (refine w_need rfl ?_; (conv => whnf)) | (refine w_ix (by assumption) rfl ?_; (conv => whnf)) | (refine w_ix hupd_same rfl ?_; (conv => whnf)) | (refine w_setL (by assumption) rfl ?_; (conv => whnf)) | (refine w_setL hupd_same rfl ?_; (conv => whnf)) | (refine w_eqi ?_; (conv => whnf)) | (refine w_eqs ?_; (conv => whnf)) | (refine w_t (by first | rfl | decide | assumption) ?_; (conv => whnf)) | (refine w_f (by first | rfl | decide | assumption) ?_; (conv => whnf)) | (refine And.intro (by first | rfl | decide | assumption | omega | exact Nat.le_of_ble_eq_true rfl | exact mulR (by omega) (by omega) | exact mulL (by omega) (by omega) | exact divOk (by omega) (by omega) | exact Exists.intro _ (by assumption)) ?_; (conv => whnf))))
              rcases hw1 with rfl | ⟨y1, rfl⟩
              · (conv => whnf); (repeat (first | (refine w_need rfl ?_; (conv => whnf)) | (refine w_ix (by assumption) rfl ?_; (conv => whnf)) | (refine w_ix hupd_same rfl ?_; (conv => whnf)) | (refine w_setL (by assumption) rfl ?_; (conv => whnf)) | (refine w_setL hupd_same rfl ?_; (conv => whnf)) | (refine w_eqi ?_; (conv => whnf)) | (refine w_eqs ?_; (conv => whnf)) | (refine w_t (by first | rfl | decide | assumption) ?_; (conv => whnf)) | (refine w_f (by first | rfl | decide | assumption) ?_; (conv => whnf)) | (refine And.intro (by first | rfl | decide | assumption | omega | exact Nat.le_of_ble_eq_true rfl | exact mulR (by omega) (by omega) | exact mulL (by omega) (by omega) | exact divOk (by omega) (by omega) | exact Exists.intro _ (by assumption)) ?_; (conv => whnf))))
                exact fin _
              · refine w_t rfl ?_
                (conv => whnf); (repeat (first | (refine w_need rfl ?_; (conv => whnf)) | (refine w_ix (by assumption) rfl ?_; (conv => whnf)) | (refine w_ix hupd_same rfl ?_; (conv => whnf)) | (refine w_setL (by assumption) rfl ?_; (conv => whnf)) | (refine w_setL hupd_same rfl ?_; (conv => whnf)) | (refine w_eqi ?_; (conv => whnf)) | (refine w_eqs ?_; (conv => whnf)) | (refine w_t (by first | rfl | decide | assumption) ?_; (conv => whnf)) | (refine w_f (by first | rfl | decide | assumption) ?_; (conv => whnf)) | (refine And.intro (by first | rfl | decide | assumption | omega | exact Nat.le_of_ble_eq_true rfl | exact mulR (by omega) (by omega) | exact mulL (by omega) (by omega) | exact divOk (by omega) (by omega) | exact Exists.intro _ (by assumption)) ?_; (conv => whnf))))
                refine w_getT e e2 ?_
                (conv => whnf); (repeat (first | (refine w_need rfl ?_; (conv => whnf)) | (refine w_ix (by assumption) rfl ?_; (conv => whnf)) | (refine w_ix hupd_same rfl ?_; (conv => whnf)) | (refine w_setL (by assumption) rfl ?_; (conv => whnf)) | (refine w_setL hupd_same rfl ?_; (conv => whnf)) | (refine w_eqi ?_; (conv => whnf)) | (refine w_eqs ?_; (conv => whnf)) | (refine w_t (by first | rfl | decide | assumption) ?_; (conv => whnf)) | (refine w_f (by first | rfl | decide | assumption) ?_; (conv => whnf)) | (refine And.intro (by first | rfl | decide | assumption | omega | exact Nat.le_of_ble_eq_true rfl | exact mulR (by omega) (by omega) | exact mulL (by omega) (by omega) | exact divOk (by omega) (by omega) | exact Exists.intro _ (by assumption)) ?_; (conv => whnf))))
                rcases hw2 with rfl | ⟨y2, rfl⟩
                · refine w_f rfl ?_
                  exact fin _
                · refine w_t rfl ?_
                  (conv => whnf); (repeat (first | (refine w_need rfl ?_; (conv => whnf)) | (refine w_ix (by assumption) rfl ?_; (conv => whnf)) | (refine w_ix hupd_same rfl ?_; (conv => whnf)) | (refine w_setL (by assumption) rfl ?_; (conv => whnf)) | (refine w_setL hupd_same rfl ?_; (conv => whnf)) | (refine w_eqi ?_; (conv => whnf)) | (refine w_eqs ?_; (conv => whnf)) | (refine w_t (by first | rfl | decide | assumption) ?_; (conv => whnf)) | (refine w_f (by first | rfl | decide | assumption) ?_; (conv => whnf)) | (refine And.intro (by first | rfl | decide | assumption | omega | exact Nat.le_of_ble_eq_true rfl | exact mulR (by omega) (by omega) | exact mulL (by omega) (by omega) | exact divOk (by omega) (by omega) | exact Exists.intro _ (by assumption)) ?_; (conv => whnf))))
                  refine w_getT e e1 ?_
                  (conv => whnf); (repeat (first | (refine w_need rfl ?_; (conv => whnf)) | (refine w_ix (by assumption) rfl ?_; (conv => whnf)) | (refine w_ix hupd_same rfl ?_; (conv => whnf)) | (refine w_setL (by assumption) rfl ?_; (conv => whnf)) | (refine w_setL hupd_same rfl ?_; (conv => whnf)) | (refine w_eqi ?_; (conv => whnf)) | (refine w_eqs ?_; (conv => whnf)) | (refine w_t (by first | rfl | decide | assumption) ?_; (conv => whnf)) | (refine w_f (by first | rfl | decide | assumption) ?_; (conv => whnf)) | (refine And.intro (by first | rfl | decide | assumption | omega | exact Nat.le_of_ble_eq_true rfl | exact mulR (by omega) (by omega) | exact mulL (by omega) (by omega) | exact divOk (by omega) (by omega) | exact Exists.intro _ (by assumption)) ?_; (conv => whnf))))
                  refine w_getT e e2 ?_
                  (conv => whnf); (repeat (first | (refine w_need rfl ?_; (conv => whnf)) | (refine w_ix (by assumption) rfl ?_; (conv => whnf)) | (refine w_ix hupd_same rfl ?_; (conv => whnf)) | (refine w_setL (by assumption) rfl ?_; (conv => whnf)) | (refine w_setL hupd_same rfl ?_; (conv => whnf)) | (refine w_eqi ?_; (conv => whnf)) | (refine w_eqs ?_; (conv => whnf)) | (refine w_t (by first | rfl | decide | assumption) ?_; (conv => whnf)) | (refine w_f (by first | rfl | decide | assumption) ?_; (conv => whnf)) | (refine And.intro (by first | rfl | decide | assumption | omega | exact Nat.le_of_ble_eq_true rfl | exact mulR (by omega) (by omega) | exact mulL (by omega) (by omega) | exact divOk (by omega) (by omega) | exact Exists.intro _ (by assumption)) ?_; (conv => whnf))))
                  refine w_getT e e3 ?_
                  (conv => whnf); (repeat (first | (refine w_need rfl ?_; (conv => whnf)) | (refine w_ix (by assumption) rfl ?_; (conv => whnf)) | (refine w_ix hupd_same rfl ?_; (conv => whnf)) | (refine w_setL (by assumption) rfl ?_; (conv => whnf)) | (refine w_setL hupd_same rfl ?_; (conv => whnf)) | (refine w_eqi ?_; (conv => whnf)) | (refine w_eqs ?_; (conv => whnf)) | (refine w_t (by first | rfl | decide | assumption) ?_; (conv => whnf)) | (refine w_f (by first | rfl | decide | assumption) ?_; (conv => whnf)) | (refine And.intro (by first | rfl | decide | assumption | omega | exact Nat.le_of_ble_eq_true rfl | exact mulR (by omega) (by omega) | exact mulL (by omega) (by omega) | exact divOk (by omega) (by omega) | exact Exists.intro _ (by assumption)) ?_; (conv => whnf))))
                  rcases hw3 with rfl | ⟨y3, rfl⟩
                  · (conv => whnf); (repeat (first | (refine w_need rfl ?_; (conv => whnf)) | (refine w_ix (by assumption) rfl ?_; (conv => whnf)) | (refine w_ix hupd_same rfl ?_; (conv => whnf)) | (refine w_setL (by assumption) rfl ?_; (conv => whnf)) | (refine w_setL hupd_same rfl ?_; (conv => whnf)) | (refine w_eqi ?_; (conv => whnf)) | (refine w_eqs ?_; (conv => whnf)) | (refine w_t (by first | rfl | decide | assumption) ?_; (conv => whnf)) | (refine w_f (by first | rfl | decide | assumption) ?_; (conv => whnf)) | (refine And.intro (by first | rfl | decide | assumption | omega | exact Nat.le_of_ble_eq_true rfl | exact mulR (by omega) (by omega) | exact mulL (by omega) (by omega) | exact divOk (by omega) (by omega) | exact Exists.intro _ (by assumption)) ?_; (conv => whnf))))
                    refine w_setT e (sz _ T) ?_
                    exact fin2 _
                  · refine w_f rfl ?_
                    (conv => whnf); (repeat (first | (refine w_need rfl ?_; (conv => whnf)) | (refine w_ix (by assumption) rfl ?_; (conv => whnf)) | (refine w_ix hupd_same rfl ?_; (conv => whnf)) | (refine w_setL (by assumption) rfl ?_; (conv => whnf)) | (refine w_setL hupd_same rfl ?_; (conv => whnf)) | (refine w_eqi ?_; (conv => whnf)) | (refine w_eqs ?_; (conv => whnf)) | (refine w_t (by first | rfl | decide | assumption) ?_; (conv => whnf)) | (refine w_f (by first | rfl | decide | assumption) ?_; (conv => whnf)) | (refine And.intro (by first | rfl | decide | assumption | omega | exact Nat.le_of_ble_eq_true rfl | exact mulR (by omega) (by omega) | exact mulL (by omega) (by omega) | exact divOk (by omega) (by omega) | exact Exists.intro _ (by assumption)) ?_; (conv => whnf))))
                    refine w_getT e e3 ?_
                    (conv => whnf); (repeat (first | (refine w_need rfl ?_; (conv => whnf)) | (refine w_ix (by assumption) rfl ?_; (conv => whnf)) | (refine w_ix hupd_same rfl ?_; (conv => whnf)) | (refine w_setL (by assumption) rfl ?_; (conv => whnf)) | (refine w_setL hupd_same rfl ?_; (conv => whnf)) | (refine w_eqi ?_; (conv => whnf)) | (refine w_eqs ?_; (conv => whnf)) | (refine w_t (by first | rfl | decide | assumption) ?_; (conv => whnf)) | (refine w_f (by first | rfl | decide | assumption) ?_; (conv => whnf)) | (refine And.intro (by first | rfl | decide | assumption | omega | exact Nat.le_of_ble_eq_true rfl | exact mulR (by omega) (by omega) | exact mulL (by omega) (by omega) | exact divOk (by omega) (by omega) | exact Exists.intro _ (by assumption)) ?_; (conv => whnf))))
                    refine w_ite (fun c => ?_) (fun c => ?_)
                    · (conv => whnf); (repeat (first | (refine w_need rfl ?_; (conv => whnf)) | (refine w_ix (by assumption) rfl ?_; (conv => whnf)) | (refine w_ix hupd_same rfl ?_; (conv => whnf)) | (refine w_setL (by assumption) rfl ?_; (conv => whnf)) | (refine w_setL hupd_same rfl ?_; (conv => whnf)) | (refine w_eqi ?_; (conv => whnf)) | (refine w_eqs ?_; (conv => whnf)) | (refine w_t (by first | rfl | decide | assumption) ?_; (conv => whnf)) | (refine w_f (by first | rfl | decide | assumption) ?_; (conv => whnf)) | (refine And.intro (by first | rfl | decide | assumption | omega | exact Nat.le_of_ble_eq_true rfl | exact mulR (by omega) (by omega) | exact mulL (by omega) (by omega) | exact divOk (by omega) (by omega) | exact Exists.intro _ (by assumption)) ?_; (conv => whnf))))
                      refine w_setT e (sz _ T) ?_
                      exact fin2 _
                    · exact fin _
            · rintro τ h' ⟨T, a4, a5, a10, rfl⟩
              exact hnx _ _ ⟨T, _, _, _, _, rfl⟩
          · rintro τ h' ⟨T, a3, a4, a5, a10, rfl⟩
            exact hnx _ _ ⟨T, _, _, _, _, _, rfl⟩
        · rintro τ h' ⟨T, a3, a4, a5, a8, a10, rfl⟩
          exact hnx _ _ ⟨T, _, _, _, _, _, rfl⟩
      · rintro τ h' ⟨T, a3, a4, a5, a8, a10, rfl⟩
        (conv => whnf); (repeat (first | (refine w_need rfl ?_; (conv => whnf)) | (refine w_ix (by assumption) rfl ?_; (conv => whnf)) | (refine w_ix hupd_same rfl ?_; (conv => whnf)) | (refine w_setL (by assumption) rfl ?_; (conv => whnf)) | (refine w_setL hupd_same rfl ?_; (conv => whnf)) | (refine w_eqi ?_; (conv => whnf)) | (refine w_eqs ?_; (conv => whnf)) | (refine w_t (by first | rfl | decide | assumption) ?_; (conv => whnf)) | (refine w_f (by first | rfl | decide | assumption) ?_; (conv => whnf)) | (refine And.intro (by first | rfl | decide | assumption | omega | exact Nat.le_of_ble_eq_true rfl | exact mulR (by omega) (by omega) | exact mulL (by omega) (by omega) | exact divOk (by omega) (by omega) | exact Exists.intro _ (by assumption)) ?_; (conv => whnf))))
        exact k q h' T
end DL

set_option linter.all false
set_option maxRecDepth 100000
namespace DL
open PySem PySem.Spec PyProof.Rows L2
theorem pds_ints (h : DH) : ∀ is : List Int, PDs h (is.map D.int) (is.map PyData.int)
  | [] => .nil
  | i :: is => .cons (.int i) (pds_ints h is)
theorem lay_ints : ∀ is : List Int, PyData.canLayAll0 (is.map PyData.int) = true
  | [] => rfl
  | i :: is => by rw [List.map_cons]; simp only [PyData.canLayAll0, PyData.canLay0, Bool.true_and]; exact lay_ints is
theorem depth_ints : ∀ is : List Int, PyData.depthAll (is.map PyData.int) = 0
  | [] => rfl
  | i :: is => by rw [List.map_cons]; simp only [PyData.depthAll, PyData.depth]; rw [depth_ints is]; rfl
theorem shaped_ints (is : List Int) : SeqAt.shaped (.list (is.map PyData.int)) = true := by
  simp only [SeqAt.shaped, PyData.canLay0, PyData.depth, lay_ints, depth_ints, Bool.true_and]
  decide
theorem sp_is_torn {h : DH} {n : Int} {t : D} {ts : List D} {Q : DK} (hn : 0 ≤ n) (hn2 : n ≤ 100) (S : SeqIs h t ts) (ok : ∀ d ∈ ts, TieOk n d) (k : ∀ r h', Ext h h' → Q (.bl r) h') : m_law_is_torn [.int n, t] h Q := by
  apply m_law_is_torn_ap
  (conv => whnf); (repeat (first | (refine w_need rfl ?_; (conv => whnf)) | (refine w_ix (by assumption) rfl ?_; (conv => whnf)) | (refine w_ix hupd_same rfl ?_; (conv => whnf)) | (refine w_setL (by assumption) rfl ?_; (conv => whnf)) | (refine w_setL hupd_same rfl ?_; (conv => whnf)) | (refine w_eqi ?_; (conv => whnf)) | (refine w_eqs ?_; (conv => whnf)) | (refine w_t (by first | rfl | decide | assumption) ?_; (conv => whnf)) | (refine w_f (by first | rfl | decide | assumption) ?_; (conv => whnf)) | (refine And.intro (by first | rfl | decide | assumption | omega | exact Nat.le_of_ble_eq_true rfl | exact mulR (by omega) (by omega) | exact mulL (by omega) (by omega) | exact divOk (by omega) (by omega) | exact Exists.intro _ (by assumption)) ?_; (conv => whnf))))
  refine sp_ups hn hn2 S ok fun q h1 T => ?_
  obtain ⟨x, hq, kvs, e, T⟩ := T
  (conv => whnf)
  refine w_lc ?_
  (conv => whnf); (repeat (first | (refine w_need rfl ?_; (conv => whnf)) | (refine w_ix (by assumption) rfl ?_; (conv => whnf)) | (refine w_ix hupd_same rfl ?_; (conv => whnf)) | (refine w_setL (by assumption) rfl ?_; (conv => whnf)) | (refine w_setL hupd_same rfl ?_; (conv => whnf)) | (refine w_eqi ?_; (conv => whnf)) | (refine w_eqs ?_; (conv => whnf)) | (refine w_t (by first | rfl | decide | assumption) ?_; (conv => whnf)) | (refine w_f (by first | rfl | decide | assumption) ?_; (conv => whnf)) | (refine And.intro (by first | rfl | decide | assumption | omega | exact Nat.le_of_ble_eq_true rfl | exact mulR (by omega) (by omega) | exact mulL (by omega) (by omega) | exact divOk (by omega) (by omega) | exact Exists.intro _ (by assumption)) ?_; (conv => whnf))))
  intro p hp
  have hpq : q ≠ p := fun z => by rw [← z, e] at hp; cases hp
  refine w_go (I := fun i h' => Ext h1 h' ∧ i ≤ n.toNat ∧ ∃ is : List Int, h' p = some (.lst (is.map D.int)) ∧ is.length ≤ i) ⟨ext_new hp, Nat.zero_le _, [], hupd_same, Nat.le_refl _⟩ (fun _ _ _ _ => trivial) ?_ ?_
  · rintro i d h' C ed ⟨x2, li, is, e2, hl⟩ hC
    obtain ⟨hi, rfl⟩ := rangeD_get ed
    have e3 := x2 _ _ e
    obtain ⟨z, ez⟩ := T.dg (0 + i) (by omega) (by omega)
    have put : Ext h1 (hupd h' p (.lst ((is ++ [0 + (i : Int)]).map D.int))) := fun a o q => by
      rw [hupd_ne (fun y => by subst y; rw [hp] at q; cases q)]
      exact x2 a o q
    rw [List.map_append] at put
    (conv => whnf); (repeat (first | (refine w_need rfl ?_; (conv => whnf)) | (refine w_ix (by assumption) rfl ?_; (conv => whnf)) | (refine w_ix hupd_same rfl ?_; (conv => whnf)) | (refine w_setL (by assumption) rfl ?_; (conv => whnf)) | (refine w_setL hupd_same rfl ?_; (conv => whnf)) | (refine w_eqi ?_; (conv => whnf)) | (refine w_eqs ?_; (conv => whnf)) | (refine w_t (by first | rfl | decide | assumption) ?_; (conv => whnf)) | (refine w_f (by first | rfl | decide | assumption) ?_; (conv => whnf)) | (refine And.intro (by first | rfl | decide | assumption | omega | exact Nat.le_of_ble_eq_true rfl | exact mulR (by omega) (by omega) | exact mulL (by omega) (by omega) | exact divOk (by omega) (by omega) | exact Exists.intro _ (by assumption)) ?_; (conv => whnf))))
    refine w_getT e3 ez ?_
    (conv => whnf)
    refine w_ite (fun c => ?_) (fun c => ?_)
    · (conv => whnf)
      refine w_push e2 (small_size (by rw [List.length_map]; omega)) ?_
      exact hC _ ⟨put, by omega, is ++ [0 + (i : Int)], by rw [hupd_same, List.map_append]; rfl, by simp only [List.length_append, List.length_cons, List.length_nil]; omega⟩
    · exact hC _ ⟨x2, by omega, is, e2, by omega⟩
  · rintro h' ⟨x2, _, is, e2, _⟩
    (conv => whnf); (repeat (first | (refine w_need rfl ?_; (conv => whnf)) | (refine w_ix (by assumption) rfl ?_; (conv => whnf)) | (refine w_ix hupd_same rfl ?_; (conv => whnf)) | (refine w_setL (by assumption) rfl ?_; (conv => whnf)) | (refine w_setL hupd_same rfl ?_; (conv => whnf)) | (refine w_eqi ?_; (conv => whnf)) | (refine w_eqs ?_; (conv => whnf)) | (refine w_t (by first | rfl | decide | assumption) ?_; (conv => whnf)) | (refine w_f (by first | rfl | decide | assumption) ?_; (conv => whnf)) | (refine And.intro (by first | rfl | decide | assumption | omega | exact Nat.le_of_ble_eq_true rfl | exact mulR (by omega) (by omega) | exact mulL (by omega) (by omega) | exact divOk (by omega) (by omega) | exact Exists.intro _ (by assumption)) ?_; (conv => whnf))))
    intro p2 hp2
    (conv => whnf)
    refine w_eqd (.lst (ext_new hp2 _ _ e2) (pds_ints _ is)) (.lst hupd_same .nil) (shaped_ints is) (shaped_ints []) ?_
    exact k _ _ (x.trans (x2.trans (ext_new hp2)))
theorem tupsD_map : ∀ ks : List (List Int), tupsD (ks.map tupI) = some ks
  | [] => rfl
  | k :: ks => by
    have h1 : ∀ k : List Int, intsD (k.map D.int) = some k := fun k => by
      induction k with
      | nil => rfl
      | cons i is ih => rw [List.map_cons]; unfold intsD; rw [ih]; rfl
    have h2 : tupD (tupI k) = some k := h1 k
    rw [List.map_cons]
    unfold tupsD
    rw [h2, tupsD_map ks]
def TieL (n share : Int) (k : List Int) : Prop := ∃ a b lo hi : Int, k = [a, b, lo, hi] ∧ (0 ≤ a ∧ a < n) ∧ (0 ≤ b ∧ b < n) ∧ a ≠ b ∧ lo ≤ hi ∧ -(5 * share) ≤ lo ∧ lo ≤ 5 * share ∧ hi ≤ 12 * share
structure TiesOk (n share : Int) (ts : List (List Int)) : Prop where
  len : ts.length < 7
  all : ∀ k ∈ ts, TieL n share k
  asc : ts.Pairwise fun a b => HT.lexLt a b = true
theorem tiesOk_nil {n share : Int} : TiesOk n share [] := ⟨by decide, (fun _ z => absurd z List.not_mem_nil), List.Pairwise.nil⟩
theorem TieL.ok {n share : Int} {ts : List (List Int)} (T : ∀ k ∈ ts, TieL n share k) : ∀ d ∈ ts.map tupI, TieOk n d := fun d hd => by
  obtain ⟨k, hk, rfl⟩ := List.mem_map.mp hd
  obtain ⟨a, b, lo, hi, rfl, ⟨h1, h2⟩, ⟨h3, h4⟩, _⟩ := T k hk
  exact ⟨a, b, lo, hi, rfl, h1, h2, h3, h4⟩
theorem mod_ne {n a d : Int} (h0 : 0 ≤ a) (h1 : a < n) (h2 : 0 ≤ d) (h3 : d < n - 1) : (a + 1 + d) % n ≠ a := by
  by_cases h : a + 1 + d < n
  · rw [Int.emod_eq_of_lt (by omega) h]; omega
  · have e : (a + 1 + d) % n = (a + 1 + d - n) % n := by rw [Int.sub_emod_right]
    rw [e, Int.emod_eq_of_lt (by omega) (by omega)]; omega
theorem sp_ties {h : DH} {b : Addr} {n share : Int} {Q : DK} (B : Bag h b) (hn : 1 ≤ n) (hn2 : n ≤ 100) (hs : 0 < share) (hs2 : share < 2 ^ 60) (k : ∀ ts h', Fr b h h' → TiesOk n share ts → Q (.tup (ts.map tupI)) h') : m_law_ties [.loc b, .int n, .int share] h Q := by
  apply m_law_ties_ap
  (conv => whnf); (repeat (first | (refine w_need rfl ?_; (conv => whnf)) | (refine w_ix (by assumption) rfl ?_; (conv => whnf)) | (refine w_ix hupd_same rfl ?_; (conv => whnf)) | (refine w_setL (by assumption) rfl ?_; (conv => whnf)) | (refine w_setL hupd_same rfl ?_; (conv => whnf)) | (refine w_eqi ?_; (conv => whnf)) | (refine w_eqs ?_; (conv => whnf)) | (refine w_t (by first | rfl | decide | assumption) ?_; (conv => whnf)) | (refine w_f (by first | rfl | decide | assumption) ?_; (conv => whnf)) | (refine And.intro (by first | rfl | decide | assumption | omega | exact Nat.le_of_ble_eq_true rfl | exact mulR (by omega) (by omega) | exact mulL (by omega) (by omega) | exact divOk (by omega) (by omega) | exact Exists.intro _ (by assumption)) ?_; (conv => whnf))))
  intro pf hpf
  (conv => whnf)
  refine w_for ?_
  have hne : pf ≠ b := B.ne hpf
  have f0 : Fr b h (hupd h pf (.lst [])) := .of_ext B (ext_new hpf)
  (conv => whnf)
  by_cases h1 : 1 < n
  · refine w_t (by simpa using h1) ?_
    (conv => whnf); (repeat (first | (refine w_need rfl ?_; (conv => whnf)) | (refine w_ix (by assumption) rfl ?_; (conv => whnf)) | (refine w_ix hupd_same rfl ?_; (conv => whnf)) | (refine w_setL (by assumption) rfl ?_; (conv => whnf)) | (refine w_setL hupd_same rfl ?_; (conv => whnf)) | (refine w_eqi ?_; (conv => whnf)) | (refine w_eqs ?_; (conv => whnf)) | (refine w_t (by first | rfl | decide | assumption) ?_; (conv => whnf)) | (refine w_f (by first | rfl | decide | assumption) ?_; (conv => whnf)) | (refine And.intro (by first | rfl | decide | assumption | omega | exact Nat.le_of_ble_eq_true rfl | exact mulR (by omega) (by omega) | exact mulL (by omega) (by omega) | exact divOk (by omega) (by omega) | exact Exists.intro _ (by assumption)) ?_; (conv => whnf))))
    refine sp_draw f0.bag (by omega) (by omega) fun v h' f v0 v1 => ?_
    (conv => whnf); (repeat (first | (refine w_need rfl ?_; (conv => whnf)) | (refine w_ix (by assumption) rfl ?_; (conv => whnf)) | (refine w_ix hupd_same rfl ?_; (conv => whnf)) | (refine w_setL (by assumption) rfl ?_; (conv => whnf)) | (refine w_setL hupd_same rfl ?_; (conv => whnf)) | (refine w_eqi ?_; (conv => whnf)) | (refine w_eqs ?_; (conv => whnf)) | (refine w_t (by first | rfl | decide | assumption) ?_; (conv => whnf)) | (refine w_f (by first | rfl | decide | assumption) ?_; (conv => whnf)) | (refine And.intro (by first | rfl | decide | assumption | omega | exact Nat.le_of_ble_eq_true rfl | exact mulR (by omega) (by omega) | exact mulL (by omega) (by omega) | exact divOk (by omega) (by omega) | exact Exists.intro _ (by assumption)) ?_; (conv => whnf))))
    refine w_range (I := fun _ τ h' => Fr b h h' ∧ ∃ pf ts a4 a5 a6 a7 a8 a9, h' pf = some (.lst (ts.map tupI)) ∧ pf ≠ b ∧ TiesOk n share ts ∧ τ = [some (.loc b), some (.int n), some (.int share), some (.loc pf), a4, a5, a6, a7, a8, a9]) ⟨f0.trans f, pf, [], _, _, _, _, _, _, f.1 _ _ hne hupd_same, hne, tiesOk_nil, rfl⟩ ?_ ?_
    · rintro i τ h1 nx hi ⟨f1, pf, ts, a4, a5, a6, a7, a8, a9, e1, hne, T, rfl⟩ hnx
      (conv => whnf); (repeat (first | (refine w_need rfl ?_; (conv => whnf)) | (refine w_ix (by assumption) rfl ?_; (conv => whnf)) | (refine w_ix hupd_same rfl ?_; (conv => whnf)) | (refine w_setL (by assumption) rfl ?_; (conv => whnf)) | (refine w_setL hupd_same rfl ?_; (conv => whnf)) | (refine w_eqi ?_; (conv => whnf)) | (refine w_eqs ?_; (conv => whnf)) | (refine w_t (by first | rfl | decide | assumption) ?_; (conv => whnf)) | (refine w_f (by first | rfl | decide | assumption) ?_; (conv => whnf)) | (refine And.intro (by first | rfl | decide | assumption | omega | exact Nat.le_of_ble_eq_true rfl | exact mulR (by omega) (by omega) | exact mulL (by omega) (by omega) | exact divOk (by omega) (by omega) | exact Exists.intro _ (by assumption)) ?_; (conv => whnf))))
      refine sp_draw f1.bag (by omega) (by omega) fun a h2 f2 a0 a1 => ?_
      (conv => whnf); (repeat (first | (refine w_need rfl ?_; (conv => whnf)) | (refine w_ix (by assumption) rfl ?_; (conv => whnf)) | (refine w_ix hupd_same rfl ?_; (conv => whnf)) | (refine w_setL (by assumption) rfl ?_; (conv => whnf)) | (refine w_setL hupd_same rfl ?_; (conv => whnf)) | (refine w_eqi ?_; (conv => whnf)) | (refine w_eqs ?_; (conv => whnf)) | (refine w_t (by first | rfl | decide | assumption) ?_; (conv => whnf)) | (refine w_f (by first | rfl | decide | assumption) ?_; (conv => whnf)) | (refine And.intro (by first | rfl | decide | assumption | omega | exact Nat.le_of_ble_eq_true rfl | exact mulR (by omega) (by omega) | exact mulL (by omega) (by omega) | exact divOk (by omega) (by omega) | exact Exists.intro _ (by assumption)) ?_; (conv => whnf))))
      refine sp_draw f2.bag (by omega) (by omega) fun d h3 f3 d0 d1 => ?_
      (conv => whnf); (repeat (first | (refine w_need rfl ?_; (conv => whnf)) | (refine w_ix (by assumption) rfl ?_; (conv => whnf)) | (refine w_ix hupd_same rfl ?_; (conv => whnf)) | (refine w_setL (by assumption) rfl ?_; (conv => whnf)) | (refine w_setL hupd_same rfl ?_; (conv => whnf)) | (refine w_eqi ?_; (conv => whnf)) | (refine w_eqs ?_; (conv => whnf)) | (refine w_t (by first | rfl | decide | assumption) ?_; (conv => whnf)) | (refine w_f (by first | rfl | decide | assumption) ?_; (conv => whnf)) | (refine And.intro (by first | rfl | decide | assumption | omega | exact Nat.le_of_ble_eq_true rfl | exact mulR (by omega) (by omega) | exact mulL (by omega) (by omega) | exact divOk (by omega) (by omega) | exact Exists.intro _ (by assumption)) ?_; (conv => whnf))))
      refine sp_draw f3.bag (by omega) (by omega) fun l h4 f4 l0 l1 => ?_
      (conv => whnf); (repeat (first | (refine w_need rfl ?_; (conv => whnf)) | (refine w_ix (by assumption) rfl ?_; (conv => whnf)) | (refine w_ix hupd_same rfl ?_; (conv => whnf)) | (refine w_setL (by assumption) rfl ?_; (conv => whnf)) | (refine w_setL hupd_same rfl ?_; (conv => whnf)) | (refine w_eqi ?_; (conv => whnf)) | (refine w_eqs ?_; (conv => whnf)) | (refine w_t (by first | rfl | decide | assumption) ?_; (conv => whnf)) | (refine w_f (by first | rfl | decide | assumption) ?_; (conv => whnf)) | (refine And.intro (by first | rfl | decide | assumption | omega | exact Nat.le_of_ble_eq_true rfl | exact mulR (by omega) (by omega) | exact mulL (by omega) (by omega) | exact divOk (by omega) (by omega) | exact Exists.intro _ (by assumption)) ?_; (conv => whnf))))
      refine sp_draw f4.bag (by omega) (by omega) fun u h5 f5 u0 u1 => ?_
      (conv => whnf); (repeat (first | (refine w_need rfl ?_; (conv => whnf)) | (refine w_ix (by assumption) rfl ?_; (conv => whnf)) | (refine w_ix hupd_same rfl ?_; (conv => whnf)) | (refine w_setL (by assumption) rfl ?_; (conv => whnf)) | (refine w_setL hupd_same rfl ?_; (conv => whnf)) | (refine w_eqi ?_; (conv => whnf)) | (refine w_eqs ?_; (conv => whnf)) | (refine w_t (by first | rfl | decide | assumption) ?_; (conv => whnf)) | (refine w_f (by first | rfl | decide | assumption) ?_; (conv => whnf)) | (refine And.intro (by first | rfl | decide | assumption | omega | exact Nat.le_of_ble_eq_true rfl | exact mulR (by omega) (by omega) | exact mulL (by omega) (by omega) | exact divOk (by omega) (by omega) | exact Exists.intro _ (by assumption)) ?_; (conv => whnf))))
      have f15 := f2.trans (f3.trans (f4.trans f5))
      have e5 := f15.1 _ _ hne e1
      intro p hp
      (conv => whnf)
      have hpb : p ≠ b := f5.bag.ne hp
      have tk : TieL n share [a, (a + 1 + d) % n, (l - 5) * share, (l - 5) * share + u * share] := by
        have l2 : (l - 5) * share ≤ 5 * share := Int.mul_le_mul_of_nonneg_right (by omega) (by omega)
        have l3 : -5 * share ≤ (l - 5) * share := Int.mul_le_mul_of_nonneg_right (by omega) (by omega)
        have u2 : u * share ≤ 7 * share := Int.mul_le_mul_of_nonneg_right (by omega) (by omega)
        have u3 : 0 * share ≤ u * share := Int.mul_le_mul_of_nonneg_right (by omega) (by omega)
        exact ⟨_, _, _, _, rfl, ⟨a0, a1⟩, ⟨Int.emod_nonneg _ (by omega), Int.emod_lt_of_pos _ (by omega)⟩, (mod_ne a0 a1 d0 d1).symm, by omega, by omega, by omega, by omega⟩
      refine ⟨ts.map tupI, [tupI [a, (a + 1 + d) % n, (l - 5) * share, (l - 5) * share + u * share]], ext_new hp _ _ e5, hupd_same, ?_, ?_⟩
      · have := T.len
        simp only [List.length_map, List.length_cons, List.length_nil]
        exact Nat.le_of_lt (small_size (by omega))
      intro p2 hp2
      (conv => whnf)
      have e6 : (seqD (hupd (hupd h5 p (.lst [tupI [a, (a + 1 + d) % n, (l - 5) * share, (l - 5) * share + u * share]])) p2 (.lst (ts.map tupI ++ [tupI [a, (a + 1 + d) % n, (l - 5) * share, (l - 5) * share + u * share]]))) (.loc p2)).bind tupsD = some (ts ++ [[a, (a + 1 + d) % n, (l - 5) * share, (l - 5) * share + u * share]]) := by
        show (lstO (hupd _ p2 _ p2)).bind tupsD = _
        rw [hupd_same]
        have := tupsD_map (ts ++ [[a, (a + 1 + d) % n, (l - 5) * share, (l - 5) * share + u * share]])
        rw [List.map_append] at this
        exact this
      refine w_sortset e6 ⟨by have := T.len; simp only [List.length_append, List.length_cons, List.length_nil]; omega, fun k hk => ?_⟩ fun ms p3 h6 hm hs hp3 x6 e7 => ?_
      · rcases List.mem_append.mp hk with hk | hk
        · obtain ⟨a, b, lo, hi, rfl, _⟩ := T.all k hk
          exact List.cons_ne_nil _ _
        · rw [List.mem_singleton.mp hk]; exact List.cons_ne_nil _ _
      have hp3b : p3 ≠ b := ((f5.bag.ext (ext_new hp)).ext (ext_new hp2)).ne hp3
      have x35 : Ext h5 h6 := (ext_new hp).trans ((ext_new hp2).trans x6)
      have all : ∀ k ∈ ms, TieL n share k := fun k hk => by
        rcases List.mem_append.mp ((hm k).mp hk) with hk | hk
        · exact T.all k hk
        · rw [List.mem_singleton.mp hk]; exact tk
      (conv => whnf)
      refine w_need (v := .int ms.length) (by show lenO (h6 p3) = _; rw [e7]; simp [lenO]) ?_
      (conv => whnf)
      have f6 := f1.trans (f15.trans (.of_ext f5.bag x35))
      have keep : nx [some (.loc b), some (.int n), some (.int share), some (.loc pf), some (.int (0 + i)), some (.int a), some (.int ((a + 1 + d) % n)), some (.int ((l - 5) * share)), some (tupI [a, (a + 1 + d) % n, (l - 5) * share, (l - 5) * share + u * share]), some (.loc p3)] h6 := hnx _ _ ⟨f6, pf, ts, _, _, _, _, _, _, x35 _ _ e5, hne, T, rfl⟩
      refine w_ite (fun c => ?_) (fun c => ?_)
      · (conv => whnf); (repeat (first | (refine w_need rfl ?_; (conv => whnf)) | (refine w_ix (by assumption) rfl ?_; (conv => whnf)) | (refine w_ix hupd_same rfl ?_; (conv => whnf)) | (refine w_setL (by assumption) rfl ?_; (conv => whnf)) | (refine w_setL hupd_same rfl ?_; (conv => whnf)) | (refine w_eqi ?_; (conv => whnf)) | (refine w_eqs ?_; (conv => whnf)) | (refine w_t (by first | rfl | decide | assumption) ?_; (conv => whnf)) | (refine w_f (by first | rfl | decide | assumption) ?_; (conv => whnf)) | (refine And.intro (by first | rfl | decide | assumption | omega | exact Nat.le_of_ble_eq_true rfl | exact mulR (by omega) (by omega) | exact mulL (by omega) (by omega) | exact divOk (by omega) (by omega) | exact Exists.intro _ (by assumption)) ?_; (conv => whnf))))
        refine sp_is_torn (by omega) hn2 (.inr ⟨p3, rfl, e7⟩) (TieL.ok all) fun r h7 x7 => ?_
        (conv => whnf)
        refine w_iteb (fun c2 => ?_) (fun c2 => ?_)
        · refine hnx _ _ ⟨f6.trans (.of_ext f6.bag x7), p3, ms, _, _, _, _, _, _, x7 _ _ e7, hp3b, ⟨by omega, all, hs⟩, rfl⟩
        · exact hnx _ _ ⟨f6.trans (.of_ext f6.bag x7), pf, ts, _, _, _, _, _, _, x7 _ _ (x35 _ _ e5), hne, T, rfl⟩
      · (conv => whnf); (repeat (first | (refine w_need rfl ?_; (conv => whnf)) | (refine w_ix (by assumption) rfl ?_; (conv => whnf)) | (refine w_ix hupd_same rfl ?_; (conv => whnf)) | (refine w_setL (by assumption) rfl ?_; (conv => whnf)) | (refine w_setL hupd_same rfl ?_; (conv => whnf)) | (refine w_eqi ?_; (conv => whnf)) | (refine w_eqs ?_; (conv => whnf)) | (refine w_t (by first | rfl | decide | assumption) ?_; (conv => whnf)) | (refine w_f (by first | rfl | decide | assumption) ?_; (conv => whnf)) | (refine And.intro (by first | rfl | decide | assumption | omega | exact Nat.le_of_ble_eq_true rfl | exact mulR (by omega) (by omega) | exact mulL (by omega) (by omega) | exact divOk (by omega) (by omega) | exact Exists.intro _ (by assumption)) ?_; (conv => whnf))))
        exact keep
    · rintro τ h1 ⟨f1, pf, ts, a4, a5, a6, a7, a8, a9, e1, hne, T, rfl⟩
      (conv => whnf)
      rw [tup_of e1]
      (conv => whnf)
      exact k ts h1 f1 T
  · refine w_f (by simpa using h1) ?_
    (conv => whnf); (repeat (first | (refine w_need rfl ?_; (conv => whnf)) | (refine w_ix (by assumption) rfl ?_; (conv => whnf)) | (refine w_ix hupd_same rfl ?_; (conv => whnf)) | (refine w_setL (by assumption) rfl ?_; (conv => whnf)) | (refine w_setL hupd_same rfl ?_; (conv => whnf)) | (refine w_eqi ?_; (conv => whnf)) | (refine w_eqs ?_; (conv => whnf)) | (refine w_t (by first | rfl | decide | assumption) ?_; (conv => whnf)) | (refine w_f (by first | rfl | decide | assumption) ?_; (conv => whnf)) | (refine And.intro (by first | rfl | decide | assumption | omega | exact Nat.le_of_ble_eq_true rfl | exact mulR (by omega) (by omega) | exact mulL (by omega) (by omega) | exact divOk (by omega) (by omega) | exact Exists.intro _ (by assumption)) ?_; (conv => whnf))))
    refine w_range (I := fun _ τ h' => h' = hupd h pf (.lst []) ∧ ∃ a4, τ = [some (.loc b), some (.int n), some (.int share), some (.loc pf), a4, none, none, none, none, none]) ⟨rfl, _, rfl⟩ (fun i _ _ _ hi => absurd hi (Nat.not_lt_zero i)) ?_
    rintro τ h1 ⟨rfl, a4, rfl⟩
    (conv => whnf)
    rw [tup_of hupd_same]
    (conv => whnf)
    exact k [] _ f0 tiesOk_nil

structure KitOk (share : Int) (kk : D) : Prop where
  ex : ∃ (dials l1 l2 cold rise ovens : Int) (ts : List (List Int)) (ds : List (List Int)), kk = .tup [.int dials, .tup [.int l1, .int l2], .tup [.int cold, .int rise], .int ovens, .tup (ts.map tupI), .tup (ds.map tupI)] ∧
    0 ≤ l1 ∧ l1 ≤ l2 ∧ l2 ≤ 8 * share ∧ 0 ≤ cold ∧ cold ≤ 30 * share ∧ 1 ≤ rise ∧ rise ≤ 1 + 11 * share ∧ 1 ≤ ovens ∧ ovens ≤ 4 ∧ TiesOk ovens share ts ∧ 1 ≤ ds.length ∧ ds.length ≤ 3 ∧ ∀ d ∈ ds, ∃ lo hi, d = [lo, hi] ∧ 0 ≤ lo ∧ lo ≤ hi ∧ hi ≤ 418 * share
theorem sp_kitchen {h : DH} {b : Addr} {dials share : Int} {Q : DK} (B : Bag h b) (hs : 0 < share) (hs2 : share < 2 ^ 60)
    (k : ∀ (l1 l2 cold rise ovens : Int) (ts : List (List Int)) (ds : List (List Int)) h', Fr b h h' → 0 ≤ l1 → l1 ≤ l2 → l2 ≤ 8 * share → 0 ≤ cold → cold ≤ 30 * share → 1 ≤ rise → rise ≤ 1 + 11 * share → 1 ≤ ovens → ovens ≤ 4 → TiesOk ovens share ts → 1 ≤ ds.length → ds.length ≤ 3 → (∀ d ∈ ds, ∃ lo hi, d = [lo, hi] ∧ 0 ≤ lo ∧ lo ≤ hi ∧ hi ≤ 418 * share) →
      Q (.tup [.int dials, .tup [.int l1, .int l2], .tup [.int cold, .int rise], .int ovens, .tup (ts.map tupI), .tup (ds.map tupI)]) h') : m_law_kitchen [.loc b, .int dials, .int share] h Q := by
  have ml : ∀ v m : Int, 0 ≤ v → v ≤ m → 0 ≤ v * share ∧ v * share ≤ m * share := fun v m h0 h1 => ⟨Int.mul_nonneg h0 (by omega), Int.mul_le_mul_of_nonneg_right h1 (by omega)⟩
  apply m_law_kitchen_ap
  (conv => whnf); (repeat (first | (refine w_need rfl ?_; (conv => whnf)) | (refine w_ix (by assumption) rfl ?_; (conv => whnf)) | (refine w_ix hupd_same rfl ?_; (conv => whnf)) | (refine w_setL (by assumption) rfl ?_; (conv => whnf)) | (refine w_setL hupd_same rfl ?_; (conv => whnf)) | (refine w_eqi ?_; (conv => whnf)) | (refine w_eqs ?_; (conv => whnf)) | (refine w_t (by first | rfl | decide | assumption) ?_; (conv => whnf)) | (refine w_f (by first | rfl | decide | assumption) ?_; (conv => whnf)) | (refine And.intro (by first | rfl | decide | assumption | omega | exact Nat.le_of_ble_eq_true rfl | exact mulR (by omega) (by omega) | exact mulL (by omega) (by omega) | exact divOk (by omega) (by omega) | exact Exists.intro _ (by assumption)) ?_; (conv => whnf))))
  refine sp_draw B (by omega) (by omega) fun a h1 f1 a0 a1 => ?_
  have ma := ml a 3 a0 (by omega)
  (conv => whnf); (repeat (first | (refine w_need rfl ?_; (conv => whnf)) | (refine w_ix (by assumption) rfl ?_; (conv => whnf)) | (refine w_ix hupd_same rfl ?_; (conv => whnf)) | (refine w_setL (by assumption) rfl ?_; (conv => whnf)) | (refine w_setL hupd_same rfl ?_; (conv => whnf)) | (refine w_eqi ?_; (conv => whnf)) | (refine w_eqs ?_; (conv => whnf)) | (refine w_t (by first | rfl | decide | assumption) ?_; (conv => whnf)) | (refine w_f (by first | rfl | decide | assumption) ?_; (conv => whnf)) | (refine And.intro (by first | rfl | decide | assumption | omega | exact Nat.le_of_ble_eq_true rfl | exact mulR (by omega) (by omega) | exact mulL (by omega) (by omega) | exact divOk (by omega) (by omega) | exact Exists.intro _ (by assumption)) ?_; (conv => whnf))))
  refine sp_draw f1.bag (by omega) (by omega) fun c h2 f2 c0 c1 => ?_
  have mc := ml c 5 c0 (by omega)
  have f12 := f1.trans f2
  (conv => whnf); (repeat (first | (refine w_need rfl ?_; (conv => whnf)) | (refine w_ix (by assumption) rfl ?_; (conv => whnf)) | (refine w_ix hupd_same rfl ?_; (conv => whnf)) | (refine w_setL (by assumption) rfl ?_; (conv => whnf)) | (refine w_setL hupd_same rfl ?_; (conv => whnf)) | (refine w_eqi ?_; (conv => whnf)) | (refine w_eqs ?_; (conv => whnf)) | (refine w_t (by first | rfl | decide | assumption) ?_; (conv => whnf)) | (refine w_f (by first | rfl | decide | assumption) ?_; (conv => whnf)) | (refine And.intro (by first | rfl | decide | assumption | omega | exact Nat.le_of_ble_eq_true rfl | exact mulR (by omega) (by omega) | exact mulL (by omega) (by omega) | exact divOk (by omega) (by omega) | exact Exists.intro _ (by assumption)) ?_; (conv => whnf))))
  refine sp_draw f12.bag (by omega) (by omega) fun d h3 f3 d0 d1 => ?_
  have md := ml d 30 d0 (by omega)
  have f13 := f12.trans f3
  (conv => whnf); (repeat (first | (refine w_need rfl ?_; (conv => whnf)) | (refine w_ix (by assumption) rfl ?_; (conv => whnf)) | (refine w_ix hupd_same rfl ?_; (conv => whnf)) | (refine w_setL (by assumption) rfl ?_; (conv => whnf)) | (refine w_setL hupd_same rfl ?_; (conv => whnf)) | (refine w_eqi ?_; (conv => whnf)) | (refine w_eqs ?_; (conv => whnf)) | (refine w_t (by first | rfl | decide | assumption) ?_; (conv => whnf)) | (refine w_f (by first | rfl | decide | assumption) ?_; (conv => whnf)) | (refine And.intro (by first | rfl | decide | assumption | omega | exact Nat.le_of_ble_eq_true rfl | exact mulR (by omega) (by omega) | exact mulL (by omega) (by omega) | exact divOk (by omega) (by omega) | exact Exists.intro _ (by assumption)) ?_; (conv => whnf))))
  refine sp_draw f13.bag (by omega) (by omega) fun e h4 f4 e0 e1 => ?_
  have me := ml e 11 e0 (by omega)
  have f14 := f13.trans f4
  (conv => whnf); (repeat (first | (refine w_need rfl ?_; (conv => whnf)) | (refine w_ix (by assumption) rfl ?_; (conv => whnf)) | (refine w_ix hupd_same rfl ?_; (conv => whnf)) | (refine w_setL (by assumption) rfl ?_; (conv => whnf)) | (refine w_setL hupd_same rfl ?_; (conv => whnf)) | (refine w_eqi ?_; (conv => whnf)) | (refine w_eqs ?_; (conv => whnf)) | (refine w_t (by first | rfl | decide | assumption) ?_; (conv => whnf)) | (refine w_f (by first | rfl | decide | assumption) ?_; (conv => whnf)) | (refine And.intro (by first | rfl | decide | assumption | omega | exact Nat.le_of_ble_eq_true rfl | exact mulR (by omega) (by omega) | exact mulL (by omega) (by omega) | exact divOk (by omega) (by omega) | exact Exists.intro _ (by assumption)) ?_; (conv => whnf))))
  refine sp_draw f14.bag (by omega) (by omega) fun n h5 f5 n0 n1 => ?_
  have f15 := f14.trans f5
  (conv => whnf); (repeat (first | (refine w_need rfl ?_; (conv => whnf)) | (refine w_ix (by assumption) rfl ?_; (conv => whnf)) | (refine w_ix hupd_same rfl ?_; (conv => whnf)) | (refine w_setL (by assumption) rfl ?_; (conv => whnf)) | (refine w_setL hupd_same rfl ?_; (conv => whnf)) | (refine w_eqi ?_; (conv => whnf)) | (refine w_eqs ?_; (conv => whnf)) | (refine w_t (by first | rfl | decide | assumption) ?_; (conv => whnf)) | (refine w_f (by first | rfl | decide | assumption) ?_; (conv => whnf)) | (refine And.intro (by first | rfl | decide | assumption | omega | exact Nat.le_of_ble_eq_true rfl | exact mulR (by omega) (by omega) | exact mulL (by omega) (by omega) | exact divOk (by omega) (by omega) | exact Exists.intro _ (by assumption)) ?_; (conv => whnf))))
  intro p hp; generalize hh_h6 : hupd _ p _ = h6; obtain ⟨x6, e6⟩ := newAt hh_h6 hp
  have hpb : p ≠ b := f15.bag.ne hp
  have f16 := f15.trans (.of_ext f15.bag x6)
  (conv => whnf)
  refine w_for ?_
  (conv => whnf); (repeat (first | (refine w_need rfl ?_; (conv => whnf)) | (refine w_ix (by assumption) rfl ?_; (conv => whnf)) | (refine w_ix hupd_same rfl ?_; (conv => whnf)) | (refine w_setL (by assumption) rfl ?_; (conv => whnf)) | (refine w_setL hupd_same rfl ?_; (conv => whnf)) | (refine w_eqi ?_; (conv => whnf)) | (refine w_eqs ?_; (conv => whnf)) | (refine w_t (by first | rfl | decide | assumption) ?_; (conv => whnf)) | (refine w_f (by first | rfl | decide | assumption) ?_; (conv => whnf)) | (refine And.intro (by first | rfl | decide | assumption | omega | exact Nat.le_of_ble_eq_true rfl | exact mulR (by omega) (by omega) | exact mulL (by omega) (by omega) | exact divOk (by omega) (by omega) | exact Exists.intro _ (by assumption)) ?_; (conv => whnf))))
  refine sp_draw f16.bag (by omega) (by omega) fun m h7 f7 m0 m1 => ?_
  have f17 := f16.trans f7
  (conv => whnf); (repeat (first | (refine w_need rfl ?_; (conv => whnf)) | (refine w_ix (by assumption) rfl ?_; (conv => whnf)) | (refine w_ix hupd_same rfl ?_; (conv => whnf)) | (refine w_setL (by assumption) rfl ?_; (conv => whnf)) | (refine w_setL hupd_same rfl ?_; (conv => whnf)) | (refine w_eqi ?_; (conv => whnf)) | (refine w_eqs ?_; (conv => whnf)) | (refine w_t (by first | rfl | decide | assumption) ?_; (conv => whnf)) | (refine w_f (by first | rfl | decide | assumption) ?_; (conv => whnf)) | (refine And.intro (by first | rfl | decide | assumption | omega | exact Nat.le_of_ble_eq_true rfl | exact mulR (by omega) (by omega) | exact mulL (by omega) (by omega) | exact divOk (by omega) (by omega) | exact Exists.intro _ (by assumption)) ?_; (conv => whnf))))
  refine w_range (I := fun i τ h' => Fr b h h' ∧ ∃ (ds : List (List Int)) (a4 a9 : Option D), h' p = some (.lst (ds.map tupI)) ∧ ds.length = i ∧ (∀ d ∈ ds, ∃ lo hi, d = [lo, hi] ∧ 0 ≤ lo ∧ lo ≤ hi ∧ hi ≤ 418 * share) ∧ τ = [some (.loc b), some (.int dials), some (.int share), some (.int (a * share)), a4, some (.tup [.int (a * share), .int (a * share + c * share)]), some (.tup [.int (d * share), .int (1 + e * share)]), some (.int (1 + n)), some (.loc p), a9]) ⟨f17, [], _, _, f7.1 _ _ hpb e6, rfl, (fun _ z => absurd z List.not_mem_nil), rfl⟩ ?_ ?_
  · rintro i τ h' nx hi ⟨f, ds, a4, a9, ep, hl, hd, rfl⟩ hnx
    (conv => whnf); (repeat (first | (refine w_need rfl ?_; (conv => whnf)) | (refine w_ix (by assumption) rfl ?_; (conv => whnf)) | (refine w_ix hupd_same rfl ?_; (conv => whnf)) | (refine w_setL (by assumption) rfl ?_; (conv => whnf)) | (refine w_setL hupd_same rfl ?_; (conv => whnf)) | (refine w_eqi ?_; (conv => whnf)) | (refine w_eqs ?_; (conv => whnf)) | (refine w_t (by first | rfl | decide | assumption) ?_; (conv => whnf)) | (refine w_f (by first | rfl | decide | assumption) ?_; (conv => whnf)) | (refine And.intro (by first | rfl | decide | assumption | omega | exact Nat.le_of_ble_eq_true rfl | exact mulR (by omega) (by omega) | exact mulL (by omega) (by omega) | exact divOk (by omega) (by omega) | exact Exists.intro _ (by assumption)) ?_; (conv => whnf))))
    refine sp_draw f.bag (by omega) (by omega) fun u h8 f8 u0 u1 => ?_
    have mu := ml u 259 u0 (by omega)
    have f8' := f.trans f8
    have ep8 := f8.1 _ _ hpb ep
    (conv => whnf); (repeat (first | (refine w_need rfl ?_; (conv => whnf)) | (refine w_ix (by assumption) rfl ?_; (conv => whnf)) | (refine w_ix hupd_same rfl ?_; (conv => whnf)) | (refine w_setL (by assumption) rfl ?_; (conv => whnf)) | (refine w_setL hupd_same rfl ?_; (conv => whnf)) | (refine w_eqi ?_; (conv => whnf)) | (refine w_eqs ?_; (conv => whnf)) | (refine w_t (by first | rfl | decide | assumption) ?_; (conv => whnf)) | (refine w_f (by first | rfl | decide | assumption) ?_; (conv => whnf)) | (refine And.intro (by first | rfl | decide | assumption | omega | exact Nat.le_of_ble_eq_true rfl | exact mulR (by omega) (by omega) | exact mulL (by omega) (by omega) | exact divOk (by omega) (by omega) | exact Exists.intro _ (by assumption)) ?_; (conv => whnf))))
    refine sp_draw f8'.bag (by omega) (by omega) fun v h9 f9 v0 v1 => ?_
    have mv := ml v 159 v0 (by omega)
    have ep9 := f9.1 _ _ hpb ep8
    (conv => whnf); (repeat (first | (refine w_need rfl ?_; (conv => whnf)) | (refine w_ix (by assumption) rfl ?_; (conv => whnf)) | (refine w_ix hupd_same rfl ?_; (conv => whnf)) | (refine w_setL (by assumption) rfl ?_; (conv => whnf)) | (refine w_setL hupd_same rfl ?_; (conv => whnf)) | (refine w_eqi ?_; (conv => whnf)) | (refine w_eqs ?_; (conv => whnf)) | (refine w_t (by first | rfl | decide | assumption) ?_; (conv => whnf)) | (refine w_f (by first | rfl | decide | assumption) ?_; (conv => whnf)) | (refine And.intro (by first | rfl | decide | assumption | omega | exact Nat.le_of_ble_eq_true rfl | exact mulR (by omega) (by omega) | exact mulL (by omega) (by omega) | exact divOk (by omega) (by omega) | exact Exists.intro _ (by assumption)) ?_; (conv => whnf))))
    rw [ep9]
    (conv => whnf)
    refine ⟨small_size (by rw [List.length_map]; omega), ?_⟩
    (conv => whnf)
    refine hnx _ _ ⟨⟨fun a o za zb => ?_, ?_⟩, ds ++ [[u * share, u * share + v * share]], _, _, by rw [hupd_same, List.map_append]; rfl, by simp [hl], ?_, rfl⟩
    · have z := f8'.trans f9
      by_cases y : a = p
      · subst y
        have := (f15.1 a o za zb)
        rw [hp] at this; cases this
      · rw [hupd_ne y]; exact z.1 a o za zb
    · obtain ⟨g, s, n, z⟩ := f9.bag
      exact ⟨g, s, n, by rw [hupd_ne hpb.symm]; exact z⟩
    · intro k hk
      rcases List.mem_append.mp hk with hk | hk
      · exact hd k hk
      · rw [List.mem_singleton.mp hk]
        exact ⟨_, _, rfl, by omega, by omega, by omega⟩
  · rintro τ h' ⟨f, ds, a4, a9, ep, hl, hd, rfl⟩
    (conv => whnf); (repeat (first | (refine w_need rfl ?_; (conv => whnf)) | (refine w_ix (by assumption) rfl ?_; (conv => whnf)) | (refine w_ix hupd_same rfl ?_; (conv => whnf)) | (refine w_setL (by assumption) rfl ?_; (conv => whnf)) | (refine w_setL hupd_same rfl ?_; (conv => whnf)) | (refine w_eqi ?_; (conv => whnf)) | (refine w_eqs ?_; (conv => whnf)) | (refine w_t (by first | rfl | decide | assumption) ?_; (conv => whnf)) | (refine w_f (by first | rfl | decide | assumption) ?_; (conv => whnf)) | (refine And.intro (by first | rfl | decide | assumption | omega | exact Nat.le_of_ble_eq_true rfl | exact mulR (by omega) (by omega) | exact mulL (by omega) (by omega) | exact divOk (by omega) (by omega) | exact Exists.intro _ (by assumption)) ?_; (conv => whnf))))
    refine sp_ties f.bag (by omega) (by omega) hs hs2 fun ts h8 f8 T => ?_
    (conv => whnf)
    rw [tup_of (f8.1 _ _ hpb ep)]
    (conv => whnf); (repeat (first | (refine w_need rfl ?_; (conv => whnf)) | (refine w_ix (by assumption) rfl ?_; (conv => whnf)) | (refine w_ix hupd_same rfl ?_; (conv => whnf)) | (refine w_setL (by assumption) rfl ?_; (conv => whnf)) | (refine w_setL hupd_same rfl ?_; (conv => whnf)) | (refine w_eqi ?_; (conv => whnf)) | (refine w_eqs ?_; (conv => whnf)) | (refine w_t (by first | rfl | decide | assumption) ?_; (conv => whnf)) | (refine w_f (by first | rfl | decide | assumption) ?_; (conv => whnf)) | (refine And.intro (by first | rfl | decide | assumption | omega | exact Nat.le_of_ble_eq_true rfl | exact mulR (by omega) (by omega) | exact mulL (by omega) (by omega) | exact divOk (by omega) (by omega) | exact Exists.intro _ (by assumption)) ?_; (conv => whnf))))
    exact k _ _ _ _ _ ts ds _ (f.trans f8) (by omega) (by omega) (by omega) (by omega) (by omega) (by omega) (by omega) (by omega) (by omega) T (by omega) (by omega) hd
theorem sp_dials {h : DH} {b : Addr} {Q : DK} (B : Bag h b) (k : ∀ n h', Fr b h h' → 1 ≤ n → n ≤ 12 → Q (.int n) h') : m_law_dials [.loc b] h Q := by
  apply m_law_dials_ap
  (conv => whnf); (repeat (first | (refine w_need rfl ?_; (conv => whnf)) | (refine w_ix (by assumption) rfl ?_; (conv => whnf)) | (refine w_ix hupd_same rfl ?_; (conv => whnf)) | (refine w_setL (by assumption) rfl ?_; (conv => whnf)) | (refine w_setL hupd_same rfl ?_; (conv => whnf)) | (refine w_eqi ?_; (conv => whnf)) | (refine w_eqs ?_; (conv => whnf)) | (refine w_t (by first | rfl | decide | assumption) ?_; (conv => whnf)) | (refine w_f (by first | rfl | decide | assumption) ?_; (conv => whnf)) | (refine And.intro (by first | rfl | decide | assumption | omega | exact Nat.le_of_ble_eq_true rfl | exact mulR (by omega) (by omega) | exact mulL (by omega) (by omega) | exact divOk (by omega) (by omega) | exact Exists.intro _ (by assumption)) ?_; (conv => whnf))))
  intro p hp; generalize hh_h1 : hupd _ p _ = h1; obtain ⟨x, e⟩ := newAt hh_h1 hp
  (conv => whnf); (repeat (first | (refine w_need rfl ?_; (conv => whnf)) | (refine w_ix (by assumption) rfl ?_; (conv => whnf)) | (refine w_ix hupd_same rfl ?_; (conv => whnf)) | (refine w_setL (by assumption) rfl ?_; (conv => whnf)) | (refine w_setL hupd_same rfl ?_; (conv => whnf)) | (refine w_eqi ?_; (conv => whnf)) | (refine w_eqs ?_; (conv => whnf)) | (refine w_t (by first | rfl | decide | assumption) ?_; (conv => whnf)) | (refine w_f (by first | rfl | decide | assumption) ?_; (conv => whnf)) | (refine And.intro (by first | rfl | decide | assumption | omega | exact Nat.le_of_ble_eq_true rfl | exact mulR (by omega) (by omega) | exact mulL (by omega) (by omega) | exact divOk (by omega) (by omega) | exact Exists.intro _ (by assumption)) ?_; (conv => whnf))))
  refine sp_pick (B.ext x) e (B.ne hp) (by decide) (by decide) fun y h2 hy f => ?_
  have f := (Fr.of_ext B x).trans f
  simp only [List.mem_cons, List.not_mem_nil, or_false] at hy
  rcases hy with rfl | rfl | rfl | rfl | rfl | rfl <;> exact k _ _ f (by decide) (by decide)
theorem sp_baking {h : DH} {b : Addr} {dials l1 l2 cold rise ovens most : Int} {ts ds : List (List Int)} {Q : DK} (B : Bag h b) (hd : 0 ≤ dials) (hd2 : dials < 2 ^ 60) (ho : 1 ≤ ovens) (ho2 : ovens ≤ 4) (hl : 1 ≤ ds.length) (hl2 : ds.length ≤ 1000) (hm : 0 < most) (hm2 : most < 2 ^ 60)
    (k : ∀ (o i m d : Int) (st : Str) h', Fr b h h' → 0 ≤ o → o < ovens → 0 ≤ i → i ≤ dials → (st = "cold" ∨ st = "warm") → 1 ≤ m → m ≤ most → 0 ≤ d → d < ds.length → Q (.tup [.int o, .int i, .str st, .int m, .int d]) h') :
    m_law_baking [.loc b, .tup [.int dials, .tup [.int l1, .int l2], .tup [.int cold, .int rise], .int ovens, .tup (ts.map tupI), .tup (ds.map tupI)], .int most] h Q := by
  apply m_law_baking_ap
  (conv => whnf); (repeat (first | (refine w_need rfl ?_; (conv => whnf)) | (refine w_ix (by assumption) rfl ?_; (conv => whnf)) | (refine w_ix hupd_same rfl ?_; (conv => whnf)) | (refine w_setL (by assumption) rfl ?_; (conv => whnf)) | (refine w_setL hupd_same rfl ?_; (conv => whnf)) | (refine w_eqi ?_; (conv => whnf)) | (refine w_eqs ?_; (conv => whnf)) | (refine w_t (by first | rfl | decide | assumption) ?_; (conv => whnf)) | (refine w_f (by first | rfl | decide | assumption) ?_; (conv => whnf)) | (refine And.intro (by first | rfl | decide | assumption | omega | exact Nat.le_of_ble_eq_true rfl | exact mulR (by omega) (by omega) | exact mulL (by omega) (by omega) | exact divOk (by omega) (by omega) | exact Exists.intro _ (by assumption)) ?_; (conv => whnf))))
  intro p hp; generalize hh_h1 : hupd _ p _ = h1; obtain ⟨x, e⟩ := newAt hh_h1 hp
  (conv => whnf); (repeat (first | (refine w_need rfl ?_; (conv => whnf)) | (refine w_ix (by assumption) rfl ?_; (conv => whnf)) | (refine w_ix hupd_same rfl ?_; (conv => whnf)) | (refine w_setL (by assumption) rfl ?_; (conv => whnf)) | (refine w_setL hupd_same rfl ?_; (conv => whnf)) | (refine w_eqi ?_; (conv => whnf)) | (refine w_eqs ?_; (conv => whnf)) | (refine w_t (by first | rfl | decide | assumption) ?_; (conv => whnf)) | (refine w_f (by first | rfl | decide | assumption) ?_; (conv => whnf)) | (refine And.intro (by first | rfl | decide | assumption | omega | exact Nat.le_of_ble_eq_true rfl | exact mulR (by omega) (by omega) | exact mulL (by omega) (by omega) | exact divOk (by omega) (by omega) | exact Exists.intro _ (by assumption)) ?_; (conv => whnf))))
  refine sp_pick (B.ext x) e (B.ne hp) (by decide) (by decide) fun y h2 hy f => ?_
  have f := (Fr.of_ext B x).trans f
  obtain ⟨st, rfl, hst⟩ : ∃ st : Str, y = .str st ∧ (st = "cold" ∨ st = "warm") := by
    simp only [List.mem_cons, List.not_mem_nil, or_false] at hy
    rcases hy with rfl | rfl
    · exact ⟨_, rfl, .inl rfl⟩
    · exact ⟨_, rfl, .inr rfl⟩
  (conv => whnf); (repeat (first | (refine w_need rfl ?_; (conv => whnf)) | (refine w_ix (by assumption) rfl ?_; (conv => whnf)) | (refine w_ix hupd_same rfl ?_; (conv => whnf)) | (refine w_setL (by assumption) rfl ?_; (conv => whnf)) | (refine w_setL hupd_same rfl ?_; (conv => whnf)) | (refine w_eqi ?_; (conv => whnf)) | (refine w_eqs ?_; (conv => whnf)) | (refine w_t (by first | rfl | decide | assumption) ?_; (conv => whnf)) | (refine w_f (by first | rfl | decide | assumption) ?_; (conv => whnf)) | (refine And.intro (by first | rfl | decide | assumption | omega | exact Nat.le_of_ble_eq_true rfl | exact mulR (by omega) (by omega) | exact mulL (by omega) (by omega) | exact divOk (by omega) (by omega) | exact Exists.intro _ (by assumption)) ?_; (conv => whnf))))
  refine sp_draw f.bag (by omega) (by omega) fun m h3 f3 m0 m1 => ?_
  have f := f.trans f3
  (conv => whnf); (repeat (first | (refine w_need rfl ?_; (conv => whnf)) | (refine w_ix (by assumption) rfl ?_; (conv => whnf)) | (refine w_ix hupd_same rfl ?_; (conv => whnf)) | (refine w_setL (by assumption) rfl ?_; (conv => whnf)) | (refine w_setL hupd_same rfl ?_; (conv => whnf)) | (refine w_eqi ?_; (conv => whnf)) | (refine w_eqs ?_; (conv => whnf)) | (refine w_t (by first | rfl | decide | assumption) ?_; (conv => whnf)) | (refine w_f (by first | rfl | decide | assumption) ?_; (conv => whnf)) | (refine And.intro (by first | rfl | decide | assumption | omega | exact Nat.le_of_ble_eq_true rfl | exact mulR (by omega) (by omega) | exact mulL (by omega) (by omega) | exact divOk (by omega) (by omega) | exact Exists.intro _ (by assumption)) ?_; (conv => whnf))))
  refine sp_draw f.bag (by omega) (by omega) fun o h4 f4 o0 o1 => ?_
  have f := f.trans f4
  (conv => whnf); (repeat (first | (refine w_need rfl ?_; (conv => whnf)) | (refine w_ix (by assumption) rfl ?_; (conv => whnf)) | (refine w_ix hupd_same rfl ?_; (conv => whnf)) | (refine w_setL (by assumption) rfl ?_; (conv => whnf)) | (refine w_setL hupd_same rfl ?_; (conv => whnf)) | (refine w_eqi ?_; (conv => whnf)) | (refine w_eqs ?_; (conv => whnf)) | (refine w_t (by first | rfl | decide | assumption) ?_; (conv => whnf)) | (refine w_f (by first | rfl | decide | assumption) ?_; (conv => whnf)) | (refine And.intro (by first | rfl | decide | assumption | omega | exact Nat.le_of_ble_eq_true rfl | exact mulR (by omega) (by omega) | exact mulL (by omega) (by omega) | exact divOk (by omega) (by omega) | exact Exists.intro _ (by assumption)) ?_; (conv => whnf))))
  refine sp_draw f.bag (by omega) (by omega) fun i h5 f5 i0 i1 => ?_
  have f := f.trans f5
  (conv => whnf); (repeat (first | (refine w_need rfl ?_; (conv => whnf)) | (refine w_ix (by assumption) rfl ?_; (conv => whnf)) | (refine w_ix hupd_same rfl ?_; (conv => whnf)) | (refine w_setL (by assumption) rfl ?_; (conv => whnf)) | (refine w_setL hupd_same rfl ?_; (conv => whnf)) | (refine w_eqi ?_; (conv => whnf)) | (refine w_eqs ?_; (conv => whnf)) | (refine w_t (by first | rfl | decide | assumption) ?_; (conv => whnf)) | (refine w_f (by first | rfl | decide | assumption) ?_; (conv => whnf)) | (refine And.intro (by first | rfl | decide | assumption | omega | exact Nat.le_of_ble_eq_true rfl | exact mulR (by omega) (by omega) | exact mulL (by omega) (by omega) | exact divOk (by omega) (by omega) | exact Exists.intro _ (by assumption)) ?_; (conv => whnf))))
  refine sp_draw f.bag (by rw [List.length_map]; omega) (by rw [List.length_map]; omega) fun d h6 f6 d0 d1 => ?_
  have f := f.trans f6
  (conv => whnf); (repeat (first | (refine w_need rfl ?_; (conv => whnf)) | (refine w_ix (by assumption) rfl ?_; (conv => whnf)) | (refine w_ix hupd_same rfl ?_; (conv => whnf)) | (refine w_setL (by assumption) rfl ?_; (conv => whnf)) | (refine w_setL hupd_same rfl ?_; (conv => whnf)) | (refine w_eqi ?_; (conv => whnf)) | (refine w_eqs ?_; (conv => whnf)) | (refine w_t (by first | rfl | decide | assumption) ?_; (conv => whnf)) | (refine w_f (by first | rfl | decide | assumption) ?_; (conv => whnf)) | (refine And.intro (by first | rfl | decide | assumption | omega | exact Nat.le_of_ble_eq_true rfl | exact mulR (by omega) (by omega) | exact mulL (by omega) (by omega) | exact divOk (by omega) (by omega) | exact Exists.intro _ (by assumption)) ?_; (conv => whnf))))
  exact k o i _ d st _ f o0 o1 i0 (by omega) hst (by omega) (by omega) d0 (by rw [List.length_map] at d1; exact d1)
end DL

set_option linter.all false
set_option maxRecDepth 100000
namespace DL
open PySem PySem.Spec PyProof.Rows L2
/-! warmth -/
abbrev kitD (dials l1 l2 cold rise ovens : Int) (ts ds : List (List Int)) : D := .tup [.int dials, .tup [.int l1, .int l2], .tup [.int cold, .int rise], .int ovens, .tup (ts.map tupI), .tup (ds.map tupI)]
abbrev bakD (o i : Int) (st : Str) (m d : Int) : D := .tup [.int o, .int i, .str st, .int m, .int d]
def manyF (m cold rise heat : Int) : Int := if (heat - cold) / rise < m then (heat - cold) / rise else m
def warmF (cold rise : Int) (st : Str) (m heat : Int) : Int := if st = "warm" then m * heat else cold * manyF m cold rise heat + rise * (manyF m cold rise heat * (manyF m cold rise heat + 1) / 2) + (m - manyF m cold rise heat) * heat
theorem manyF_le {m cold rise heat : Int} : manyF m cold rise heat ≤ m := by unfold manyF; split <;> omega
theorem manyF_nn {m cold rise heat : Int} (hm : 0 ≤ m) (hc : cold ≤ heat) (hr : 1 ≤ rise) : 0 ≤ manyF m cold rise heat := by
  unfold manyF
  have : 0 ≤ (heat - cold) / rise := Int.ediv_nonneg (by omega) (by omega)
  split <;> omega
theorem sp_warmth {h : DH} {dials l1 l2 cold rise ovens : Int} {ts ds : List (List Int)} {o i m d heat : Int} {st : Str} {Q : DK} (hc0 : 0 ≤ cold) (hc1 : cold < 2 ^ 60) (hr0 : 1 ≤ rise) (hr1 : rise < 2 ^ 60) (hm : 0 ≤ m) (hm2 : m < 2 ^ 60) (hh : cold ≤ heat) (k : Q (.int (warmF cold rise st m heat)) h) :
    m_warmth [kitD dials l1 l2 cold rise ovens ts ds, bakD o i st m d, .int heat] h Q := by
  have q1 := manyF_le (m := m) (cold := cold) (rise := rise) (heat := heat)
  have q2 := manyF_nn (m := m) (heat := heat) hm hh hr0
  apply m_warmth_ap
  (conv => whnf); (repeat (first | (refine w_need rfl ?_; (conv => whnf)) | (refine w_ix (by assumption) rfl ?_; (conv => whnf)) | (refine w_ix hupd_same rfl ?_; (conv => whnf)) | (refine w_setL (by assumption) rfl ?_; (conv => whnf)) | (refine w_setL hupd_same rfl ?_; (conv => whnf)) | (refine w_eqi ?_; (conv => whnf)) | (refine w_eqs ?_; (conv => whnf)) | (refine w_t (by first | rfl | decide | assumption) ?_; (conv => whnf)) | (refine w_f (by first | rfl | decide | assumption) ?_; (conv => whnf)) | (refine And.intro (by first | rfl | decide | assumption | omega | exact Nat.le_of_ble_eq_true rfl | exact mulR (by omega) (by omega) | exact mulL (by omega) (by omega) | exact divOk (by omega) (by omega) | exact Exists.intro _ (by assumption)) ?_; (conv => whnf))))
  apply m_warmth_by_ap
  (conv => whnf); (repeat (first | (refine w_need rfl ?_; (conv => whnf)) | (refine w_ix (by assumption) rfl ?_; (conv => whnf)) | (refine w_ix hupd_same rfl ?_; (conv => whnf)) | (refine w_setL (by assumption) rfl ?_; (conv => whnf)) | (refine w_setL hupd_same rfl ?_; (conv => whnf)) | (refine w_eqi ?_; (conv => whnf)) | (refine w_eqs ?_; (conv => whnf)) | (refine w_t (by first | rfl | decide | assumption) ?_; (conv => whnf)) | (refine w_f (by first | rfl | decide | assumption) ?_; (conv => whnf)) | (refine And.intro (by first | rfl | decide | assumption | omega | exact Nat.le_of_ble_eq_true rfl | exact mulR (by omega) (by omega) | exact mulL (by omega) (by omega) | exact divOk (by omega) (by omega) | exact Exists.intro _ (by assumption)) ?_; (conv => whnf))))
  refine w_ite (fun e => ?_) (fun e => ?_)
  · (conv => whnf); (repeat (first | (refine w_need rfl ?_; (conv => whnf)) | (refine w_ix (by assumption) rfl ?_; (conv => whnf)) | (refine w_ix hupd_same rfl ?_; (conv => whnf)) | (refine w_setL (by assumption) rfl ?_; (conv => whnf)) | (refine w_setL hupd_same rfl ?_; (conv => whnf)) | (refine w_eqi ?_; (conv => whnf)) | (refine w_eqs ?_; (conv => whnf)) | (refine w_t (by first | rfl | decide | assumption) ?_; (conv => whnf)) | (refine w_f (by first | rfl | decide | assumption) ?_; (conv => whnf)) | (refine And.intro (by first | rfl | decide | assumption | omega | exact Nat.le_of_ble_eq_true rfl | exact mulR (by omega) (by omega) | exact mulL (by omega) (by omega) | exact divOk (by omega) (by omega) | exact Exists.intro _ (by assumption)) ?_; (conv => whnf))))
    unfold warmF at k
    rw [if_pos e] at k
    exact k
  · unfold warmF at k
    rw [if_neg e] at k
    unfold manyF at k q1 q2
    (conv => whnf); (repeat (first | (refine w_need rfl ?_; (conv => whnf)) | (refine w_ix (by assumption) rfl ?_; (conv => whnf)) | (refine w_ix hupd_same rfl ?_; (conv => whnf)) | (refine w_setL (by assumption) rfl ?_; (conv => whnf)) | (refine w_setL hupd_same rfl ?_; (conv => whnf)) | (refine w_eqi ?_; (conv => whnf)) | (refine w_eqs ?_; (conv => whnf)) | (refine w_t (by first | rfl | decide | assumption) ?_; (conv => whnf)) | (refine w_f (by first | rfl | decide | assumption) ?_; (conv => whnf)) | (refine And.intro (by first | rfl | decide | assumption | omega | exact Nat.le_of_ble_eq_true rfl | exact mulR (by omega) (by omega) | exact mulL (by omega) (by omega) | exact divOk (by omega) (by omega) | exact Exists.intro _ (by assumption)) ?_; (conv => whnf))))
    generalize (if (heat - cold) / rise < m then (heat - cold) / rise else m) = q at *
    (conv => whnf); (repeat (first | (refine w_need rfl ?_; (conv => whnf)) | (refine w_ix (by assumption) rfl ?_; (conv => whnf)) | (refine w_ix hupd_same rfl ?_; (conv => whnf)) | (refine w_setL (by assumption) rfl ?_; (conv => whnf)) | (refine w_setL hupd_same rfl ?_; (conv => whnf)) | (refine w_eqi ?_; (conv => whnf)) | (refine w_eqs ?_; (conv => whnf)) | (refine w_t (by first | rfl | decide | assumption) ?_; (conv => whnf)) | (refine w_f (by first | rfl | decide | assumption) ?_; (conv => whnf)) | (refine And.intro (by first | rfl | decide | assumption | omega | exact Nat.le_of_ble_eq_true rfl | exact mulR (by omega) (by omega) | exact mulL (by omega) (by omega) | exact divOk (by omega) (by omega) | exact Exists.intro _ (by assumption)) ?_; (conv => whnf))))
    exact k
/-! the sums -/
theorem tri_succ (q : Int) : (q + 1) * (q + 1 + 1) / 2 = q * (q + 1) / 2 + (q + 1) := by
  have : (q + 1) * (q + 1 + 1) = q * (q + 1) + 2 * (q + 1) := by
    rw [Int.add_mul, Int.mul_add, Int.mul_add, Int.mul_add]; omega
  rw [this, Int.add_mul_ediv_left _ _ (by decide)]
theorem warm_step {cold rise heat m : Int} {st : Str} (hr0 : 1 ≤ rise) (hh : cold ≤ heat) : warmF cold rise st m (heat + 1) - warmF cold rise st m heat = m - (if st = "warm" then 0 else manyF m cold rise heat) := by
  unfold warmF
  split
  · rw [Int.mul_add, Int.mul_one]; omega
  · have d1 := Int.mul_ediv_add_emod (heat - cold) rise
    have d2 := Int.emod_nonneg (heat - cold) (show rise ≠ 0 by omega)
    have d3 := Int.emod_lt_of_pos (heat - cold) (show 0 < rise by omega)
    have ek : (heat + 1 - cold) / rise = if (heat - cold) % rise + 1 = rise then (heat - cold) / rise + 1 else (heat - cold) / rise := by
      have e0 : heat + 1 - cold = (heat - cold) % rise + 1 + rise * ((heat - cold) / rise) := by omega
      rw [e0, Int.add_mul_ediv_left _ _ (by omega)]
      split
      · rename_i e; rw [e, Int.ediv_self (by omega)]; omega
      · rw [Int.ediv_eq_zero_of_lt (by omega) (by omega)]; omega
    by_cases c : (heat - cold) % rise + 1 = rise ∧ (heat - cold) / rise + 1 ≤ m
    · obtain ⟨c1, c2⟩ := c
      rw [if_pos c1] at ek
      have e1 : manyF m cold rise heat = (heat - cold) / rise := by unfold manyF; split <;> omega
      have e2 : manyF m cold rise (heat + 1) = (heat - cold) / rise + 1 := by unfold manyF; rw [ek]; split <;> omega
      rw [e1, e2, tri_succ]
      generalize (heat - cold) / rise = q at *
      have z : rise * (q * (q + 1) / 2 + (q + 1)) = rise * (q * (q + 1) / 2) + (rise * q + rise) := by rw [Int.mul_add, Int.mul_add rise q 1, Int.mul_one]
      have z2 : cold * (q + 1) = cold * q + cold := by rw [Int.mul_add, Int.mul_one]
      have z3 : (m - (q + 1)) * (heat + 1) = (m - q) * heat + (m - q) - (heat + 1) := by
        have : m - (q + 1) = (m - q) - 1 := by omega
        rw [this, Int.sub_mul, Int.mul_add, Int.mul_one, Int.one_mul]
      rw [z, z2, z3]; omega
    · have e1 : manyF m cold rise (heat + 1) = manyF m cold rise heat := by
        unfold manyF
        rw [ek]
        split
        · split
          · split <;> omega
          · split <;> omega
        · rfl
      rw [e1]
      generalize manyF m cold rise heat = q
      have : (m - q) * (heat + 1) = (m - q) * heat + (m - q) := by rw [Int.mul_add, Int.mul_one]
      rw [this]; omega
theorem warm_bound {cold rise heat m : Int} {st : Str} (hc0 : 0 ≤ cold) (hc1 : cold < 2 ^ 60) (hr0 : 1 ≤ rise) (hr1 : rise < 2 ^ 60) (hm : 0 ≤ m) (hm2 : m < 2 ^ 60) (hh : cold ≤ heat) (hh2 : heat < 10 ^ 40) : okI (warmF cold rise st m heat) := by
  have q1 := manyF_le (m := m) (cold := cold) (rise := rise) (heat := heat)
  have q2 := manyF_nn (m := m) (heat := heat) hm hh hr0
  unfold okI warmF
  split
  · have a := Int.mul_nonneg hm (show 0 ≤ heat by omega)
    have b : m * heat ≤ 2 ^ 60 * 10 ^ 40 := Int.mul_le_mul (by omega) (by omega) (by omega) (by decide)
    have : (10 : Nat) ^ 100 = ((10 ^ 100 : Int)).toNat := by decide +kernel
    omega
  · generalize manyF m cold rise heat = q at *
    have a1 := Int.mul_nonneg hc0 q2
    have b1 : cold * q ≤ 2 ^ 60 * 2 ^ 60 := Int.mul_le_mul (by omega) (by omega) (by omega) (by decide)
    have a2 := Int.mul_nonneg q2 (show 0 ≤ q + 1 by omega)
    have b2 : q * (q + 1) ≤ 2 ^ 60 * 2 ^ 61 := Int.mul_le_mul (by omega) (by omega) (by omega) (by decide)
    have a3 : 0 ≤ rise * (q * (q + 1) / 2) := Int.mul_nonneg (by omega) (by omega)
    have b3 : rise * (q * (q + 1) / 2) ≤ 2 ^ 60 * (2 ^ 60 * 2 ^ 61) := Int.mul_le_mul (by omega) (by omega) (by omega) (by decide)
    have a4 := Int.mul_nonneg (show 0 ≤ m - q by omega) (show 0 ≤ heat by omega)
    have b4 : (m - q) * heat ≤ 2 ^ 60 * 10 ^ 40 := Int.mul_le_mul (by omega) (by omega) (by omega) (by decide)
    omega
end DL

set_option linter.all false
set_option maxRecDepth 100000
namespace DL
open PySem PySem.Spec PyProof.Rows L2
theorem sp_warmthL {h : DH} {dials l1 l2 cold rise ovens : Int} {ts ds : List (List Int)} {o i m d heat : Int} {st : Str} {Q : DK} (hc0 : 0 ≤ cold) (hc1 : cold < 2 ^ 60) (hr0 : 1 ≤ rise) (hr1 : rise < 2 ^ 60) (hm : 0 ≤ m) (hm2 : m < 2 ^ 60) (hh : cold ≤ heat) (k : Q (.int (warmF cold rise st m heat)) h) :
    m_law_warmth [kitD dials l1 l2 cold rise ovens ts ds, bakD o i st m d, .int heat] h Q := by
  have q1 := manyF_le (m := m) (cold := cold) (rise := rise) (heat := heat)
  have q2 := manyF_nn (m := m) (heat := heat) hm hh hr0
  apply m_law_warmth_ap
  (conv => whnf); (repeat (first | (refine w_need rfl ?_; (conv => whnf)) | (refine w_ix (by assumption) rfl ?_; (conv => whnf)) | (refine w_ix hupd_same rfl ?_; (conv => whnf)) | (refine w_setL (by assumption) rfl ?_; (conv => whnf)) | (refine w_setL hupd_same rfl ?_; (conv => whnf)) | (refine w_eqi ?_; (conv => whnf)) | (refine w_eqs ?_; (conv => whnf)) | (refine w_t (by first | rfl | decide | assumption) ?_; (conv => whnf)) | (refine w_f (by first | rfl | decide | assumption) ?_; (conv => whnf)) | (refine And.intro (by first | rfl | decide | assumption | omega | exact Nat.le_of_ble_eq_true rfl | exact mulR (by omega) (by omega) | exact mulL (by omega) (by omega) | exact divOk (by omega) (by omega) | exact Exists.intro _ (by assumption)) ?_; (conv => whnf))))
  refine w_ite (fun e => ?_) (fun e => ?_)
  · (conv => whnf); (repeat (first | (refine w_need rfl ?_; (conv => whnf)) | (refine w_ix (by assumption) rfl ?_; (conv => whnf)) | (refine w_ix hupd_same rfl ?_; (conv => whnf)) | (refine w_setL (by assumption) rfl ?_; (conv => whnf)) | (refine w_setL hupd_same rfl ?_; (conv => whnf)) | (refine w_eqi ?_; (conv => whnf)) | (refine w_eqs ?_; (conv => whnf)) | (refine w_t (by first | rfl | decide | assumption) ?_; (conv => whnf)) | (refine w_f (by first | rfl | decide | assumption) ?_; (conv => whnf)) | (refine And.intro (by first | rfl | decide | assumption | omega | exact Nat.le_of_ble_eq_true rfl | exact mulR (by omega) (by omega) | exact mulL (by omega) (by omega) | exact divOk (by omega) (by omega) | exact Exists.intro _ (by assumption)) ?_; (conv => whnf))))
    unfold warmF at k
    rw [if_pos e] at k
    exact k
  · unfold warmF at k
    rw [if_neg e] at k
    unfold manyF at k q1 q2
    (conv => whnf); (repeat (first | (refine w_need rfl ?_; (conv => whnf)) | (refine w_ix (by assumption) rfl ?_; (conv => whnf)) | (refine w_ix hupd_same rfl ?_; (conv => whnf)) | (refine w_setL (by assumption) rfl ?_; (conv => whnf)) | (refine w_setL hupd_same rfl ?_; (conv => whnf)) | (refine w_eqi ?_; (conv => whnf)) | (refine w_eqs ?_; (conv => whnf)) | (refine w_t (by first | rfl | decide | assumption) ?_; (conv => whnf)) | (refine w_f (by first | rfl | decide | assumption) ?_; (conv => whnf)) | (refine And.intro (by first | rfl | decide | assumption | omega | exact Nat.le_of_ble_eq_true rfl | exact mulR (by omega) (by omega) | exact mulL (by omega) (by omega) | exact divOk (by omega) (by omega) | exact Exists.intro _ (by assumption)) ?_; (conv => whnf))))
    generalize (if (heat - cold) / rise < m then (heat - cold) / rise else m) = q at *
    (conv => whnf); (repeat (first | (refine w_need rfl ?_; (conv => whnf)) | (refine w_ix (by assumption) rfl ?_; (conv => whnf)) | (refine w_ix hupd_same rfl ?_; (conv => whnf)) | (refine w_setL (by assumption) rfl ?_; (conv => whnf)) | (refine w_setL hupd_same rfl ?_; (conv => whnf)) | (refine w_eqi ?_; (conv => whnf)) | (refine w_eqs ?_; (conv => whnf)) | (refine w_t (by first | rfl | decide | assumption) ?_; (conv => whnf)) | (refine w_f (by first | rfl | decide | assumption) ?_; (conv => whnf)) | (refine And.intro (by first | rfl | decide | assumption | omega | exact Nat.le_of_ble_eq_true rfl | exact mulR (by omega) (by omega) | exact mulL (by omega) (by omega) | exact divOk (by omega) (by omega) | exact Exists.intro _ (by assumption)) ?_; (conv => whnf))))
    exact k
end DL

set_option linter.all false
set_option maxRecDepth 100000
namespace DL
open PySem PySem.Spec PyProof.Rows L2
/-! the first heat of a warmth, outcomes -/
theorem warm_mono1 {cold rise heat m : Int} {st : Str} (hr0 : 1 ≤ rise) (hh : cold ≤ heat) (hm : 0 ≤ m) : warmF cold rise st m heat ≤ warmF cold rise st m (heat + 1) := by
  have a := warm_step (m := m) (st := st) hr0 hh
  have b := manyF_le (m := m) (cold := cold) (rise := rise) (heat := heat)
  split at a <;> omega
theorem warm_mono {cold rise a b m : Int} {st : Str} (hr0 : 1 ≤ rise) (ha : cold ≤ a) (hm : 0 ≤ m) (hab : a ≤ b) : warmF cold rise st m a ≤ warmF cold rise st m b := by
  obtain ⟨k, rfl⟩ : ∃ k : Nat, b = a + k := ⟨(b - a).toNat, by omega⟩
  clear hab
  induction k with
  | zero => simp
  | succ k ih =>
    have := warm_mono1 (cold := cold) (rise := rise) (m := m) (st := st) (heat := a + k) hr0 (by omega) hm
    have e : a + ((k + 1 : Nat) : Int) = a + k + 1 := by push_cast; omega
    rw [e]
    exact Int.le_trans ih this
def topF (cold rise m : Int) : Int := cold * m + rise * (m * (m + 1) / 2)
theorem warm_top {cold rise heat m : Int} {st : Str} (hr0 : 1 ≤ rise) (hs : st ≠ "warm") (hh : cold + rise * m ≤ heat) : warmF cold rise st m heat = topF cold rise m := by
  have : m ≤ (heat - cold) / rise := by
    rw [Int.le_ediv_iff_mul_le (by omega), Int.mul_comm]; omega
  have e : manyF m cold rise heat = m := by unfold manyF; split <;> omega
  unfold warmF topF
  rw [if_neg hs, e]; simp
theorem warm_le_top {cold rise heat m : Int} {st : Str} (hr0 : 1 ≤ rise) (hm : 0 ≤ m) (hs : st ≠ "warm") (hh : cold ≤ heat) : warmF cold rise st m heat ≤ topF cold rise m := by
  by_cases c : cold + rise * m ≤ heat
  · rw [warm_top hr0 hs c]; exact Int.le_refl _
  · rw [← warm_top (st := st) (heat := cold + rise * m) hr0 hs (Int.le_refl _)]
    exact warm_mono hr0 hh hm (by omega)
structure FirstIs (f : Int → Int) (cold least : Int) (o : Option Int) : Prop where
  none_ : o = none → ∀ x, cold ≤ x → f x < least
  some_ : ∀ L, o = some L → cold ≤ L ∧ least ≤ f L ∧ ∀ x, cold ≤ x → x < L → f x < least
def optD : Option Int → D
  | none => .non
  | some i => .int i
theorem sp_warmth_none {h : DH} {dials l1 l2 cold rise ovens : Int} {ts ds : List (List Int)} {o i m d : Int} {st : Str} {Q : DK} (hc0 : 0 ≤ cold) (hc1 : cold < 2 ^ 60) (hr0 : 1 ≤ rise) (hr1 : rise < 2 ^ 60) (hm : 0 ≤ m) (hm2 : m < 2 ^ 60)
    (k1 : st = "warm" → Q .non h) (k2 : st ≠ "warm" → Q (.int (topF cold rise m)) h) : m_warmth [kitD dials l1 l2 cold rise ovens ts ds, bakD o i st m d, .non] h Q := by
  apply m_warmth_ap
  (conv => whnf); (repeat (first | (refine w_need rfl ?_; (conv => whnf)) | (refine w_ix (by assumption) rfl ?_; (conv => whnf)) | (refine w_ix hupd_same rfl ?_; (conv => whnf)) | (refine w_setL (by assumption) rfl ?_; (conv => whnf)) | (refine w_setL hupd_same rfl ?_; (conv => whnf)) | (refine w_eqi ?_; (conv => whnf)) | (refine w_eqs ?_; (conv => whnf)) | (refine w_t (by first | rfl | decide | assumption) ?_; (conv => whnf)) | (refine w_f (by first | rfl | decide | assumption) ?_; (conv => whnf)) | (refine And.intro (by first | rfl | decide | assumption | omega | exact Nat.le_of_ble_eq_true rfl | exact mulR (by omega) (by omega) | exact mulL (by omega) (by omega) | exact divOk (by omega) (by omega) | exact Exists.intro _ (by assumption)) ?_; (conv => whnf))))
  apply m_warmth_by_ap
  (conv => whnf); (repeat (first | (refine w_need rfl ?_; (conv => whnf)) | (refine w_ix (by assumption) rfl ?_; (conv => whnf)) | (refine w_ix hupd_same rfl ?_; (conv => whnf)) | (refine w_setL (by assumption) rfl ?_; (conv => whnf)) | (refine w_setL hupd_same rfl ?_; (conv => whnf)) | (refine w_eqi ?_; (conv => whnf)) | (refine w_eqs ?_; (conv => whnf)) | (refine w_t (by first | rfl | decide | assumption) ?_; (conv => whnf)) | (refine w_f (by first | rfl | decide | assumption) ?_; (conv => whnf)) | (refine And.intro (by first | rfl | decide | assumption | omega | exact Nat.le_of_ble_eq_true rfl | exact mulR (by omega) (by omega) | exact mulL (by omega) (by omega) | exact divOk (by omega) (by omega) | exact Exists.intro _ (by assumption)) ?_; (conv => whnf))))
  refine w_ite (fun e => ?_) (fun e => ?_)
  · (conv => whnf); (repeat (first | (refine w_need rfl ?_; (conv => whnf)) | (refine w_ix (by assumption) rfl ?_; (conv => whnf)) | (refine w_ix hupd_same rfl ?_; (conv => whnf)) | (refine w_setL (by assumption) rfl ?_; (conv => whnf)) | (refine w_setL hupd_same rfl ?_; (conv => whnf)) | (refine w_eqi ?_; (conv => whnf)) | (refine w_eqs ?_; (conv => whnf)) | (refine w_t (by first | rfl | decide | assumption) ?_; (conv => whnf)) | (refine w_f (by first | rfl | decide | assumption) ?_; (conv => whnf)) | (refine And.intro (by first | rfl | decide | assumption | omega | exact Nat.le_of_ble_eq_true rfl | exact mulR (by omega) (by omega) | exact mulL (by omega) (by omega) | exact divOk (by omega) (by omega) | exact Exists.intro _ (by assumption)) ?_; (conv => whnf))))
    exact k1 e
  · (conv => whnf); (repeat (first | (refine w_need rfl ?_; (conv => whnf)) | (refine w_ix (by assumption) rfl ?_; (conv => whnf)) | (refine w_ix hupd_same rfl ?_; (conv => whnf)) | (refine w_setL (by assumption) rfl ?_; (conv => whnf)) | (refine w_setL hupd_same rfl ?_; (conv => whnf)) | (refine w_eqi ?_; (conv => whnf)) | (refine w_eqs ?_; (conv => whnf)) | (refine w_t (by first | rfl | decide | assumption) ?_; (conv => whnf)) | (refine w_f (by first | rfl | decide | assumption) ?_; (conv => whnf)) | (refine And.intro (by first | rfl | decide | assumption | omega | exact Nat.le_of_ble_eq_true rfl | exact mulR (by omega) (by omega) | exact mulL (by omega) (by omega) | exact divOk (by omega) (by omega) | exact Exists.intro _ (by assumption)) ?_; (conv => whnf))))
    exact k2 e
theorem sp_least_heat {h : DH} {dials l1 l2 cold rise ovens least : Int} {ts ds : List (List Int)} {o i m d : Int} {st : Str} {Q : DK} (hc0 : 0 ≤ cold) (hc1 : cold < 2 ^ 60) (hr0 : 1 ≤ rise) (hr1 : rise < 2 ^ 60) (hm : 1 ≤ m) (hm2 : m < 2 ^ 60)
    (k : ∀ o, FirstIs (warmF cold rise st m) cold least o → Q (optD o) h) : m_least_heat [kitD dials l1 l2 cold rise ovens ts ds, bakD o i st m d, .int least] h Q := by
  have rest : ∀ top : D, (st ≠ "warm" → least ≤ topF cold rise m) →
      kWhile (dTest (dOp dLt (dCall 3 m_warmth (dCons (dVar 0) (dCons (dVar 1) (dCons (dOp dAdd (dVar 5) (dVar 6)) dNil)))) (dVar 2))) (dAsg (dOp dMul (dVar 6) (dC (.int 2))) (gdName 6))
        { nx := (dSeq (dAsg (dOp dAdd (dVar 5) (dVar 6)) (gdName 4))
    (dSeq (kWhile (dTest (dOp dLt (dVar 5) (dVar 4))) (dSeq (dAsg (dOp dFdiv (dOp dAdd (dVar 5) (dVar 4)) (dC (.int 2))) (gdName 7))
    (dIfS (dTest (dOp dGe (dCall 3 m_warmth (dCons (dVar 0) (dCons (dVar 1) (dCons (dVar 7) dNil)))) (dVar 2))) (dAsg (dVar 7) (gdName 4)) (dAsg (dOp dAdd (dVar 7) (dC (.int 1))) (gdName 5)))))
    (dRet (dVar 5))) { nx := fun _ h => Q .non h, rt := Q }), rt := Q } [some (kitD dials l1 l2 cold rise ovens ts ds), some (bakD o i st m d), some (.int least), some top, none, some (.int cold), some (.int 1), none] h := by
    intro top ht
    have rm : 0 ≤ rise * m := Int.mul_nonneg (by omega) (by omega)
    have far : ∀ step : Int, 1 ≤ step → least ≤ step → rise * m ≤ step → least ≤ warmF cold rise st m (cold + step) := by
      intro step h1 h2 h3
      by_cases e : st = "warm"
      · unfold warmF
        rw [if_pos e]
        have : 1 * (cold + step) ≤ m * (cold + step) := Int.mul_le_mul_of_nonneg_right hm (by omega)
        omega
      · rw [warm_top hr0 e (by omega)]; exact ht e
    refine w_while (I := fun n τ h' => h' = h ∧ ∃ step : Int, 1 ≤ step ∧ n = (least.toNat + (rise * m).toNat + 1) - step.toNat ∧ τ = [some (kitD dials l1 l2 cold rise ovens ts ds), some (bakD o i st m d), some (.int least), some top, none, some (.int cold), some (.int step), none]) ⟨rfl, 1, by omega, rfl, rfl⟩ ?_
    rintro n τ h' nx ⟨rfl, step, s1, en, rfl⟩ hnx
    (conv => whnf); (repeat (first | (refine w_need rfl ?_; (conv => whnf)) | (refine w_ix (by assumption) rfl ?_; (conv => whnf)) | (refine w_ix hupd_same rfl ?_; (conv => whnf)) | (refine w_setL (by assumption) rfl ?_; (conv => whnf)) | (refine w_setL hupd_same rfl ?_; (conv => whnf)) | (refine w_eqi ?_; (conv => whnf)) | (refine w_eqs ?_; (conv => whnf)) | (refine w_t (by first | rfl | decide | assumption) ?_; (conv => whnf)) | (refine w_f (by first | rfl | decide | assumption) ?_; (conv => whnf)) | (refine And.intro (by first | rfl | decide | assumption | omega | exact Nat.le_of_ble_eq_true rfl | exact mulR (by omega) (by omega) | exact mulL (by omega) (by omega) | exact divOk (by omega) (by omega) | exact Exists.intro _ (by assumption)) ?_; (conv => whnf))))
    refine sp_warmth hc0 hc1 hr0 hr1 (by omega) hm2 (by omega) ?_
    (conv => whnf); (repeat (first | (refine w_need rfl ?_; (conv => whnf)) | (refine w_ix (by assumption) rfl ?_; (conv => whnf)) | (refine w_ix hupd_same rfl ?_; (conv => whnf)) | (refine w_setL (by assumption) rfl ?_; (conv => whnf)) | (refine w_setL hupd_same rfl ?_; (conv => whnf)) | (refine w_eqi ?_; (conv => whnf)) | (refine w_eqs ?_; (conv => whnf)) | (refine w_t (by first | rfl | decide | assumption) ?_; (conv => whnf)) | (refine w_f (by first | rfl | decide | assumption) ?_; (conv => whnf)) | (refine And.intro (by first | rfl | decide | assumption | omega | exact Nat.le_of_ble_eq_true rfl | exact mulR (by omega) (by omega) | exact mulL (by omega) (by omega) | exact divOk (by omega) (by omega) | exact Exists.intro _ (by assumption)) ?_; (conv => whnf))))
    refine w_ite (fun c => ?_) (fun c => ?_)
    · have sm : step.toNat < least.toNat + (rise * m).toNat + 1 := by
        by_cases z : step.toNat < least.toNat + (rise * m).toNat + 1
        · exact z
        · have := far step s1 (by omega) (by omega)
          omega
      (conv => whnf); (repeat (first | (refine w_need rfl ?_; (conv => whnf)) | (refine w_ix (by assumption) rfl ?_; (conv => whnf)) | (refine w_ix hupd_same rfl ?_; (conv => whnf)) | (refine w_setL (by assumption) rfl ?_; (conv => whnf)) | (refine w_setL hupd_same rfl ?_; (conv => whnf)) | (refine w_eqi ?_; (conv => whnf)) | (refine w_eqs ?_; (conv => whnf)) | (refine w_t (by first | rfl | decide | assumption) ?_; (conv => whnf)) | (refine w_f (by first | rfl | decide | assumption) ?_; (conv => whnf)) | (refine And.intro (by first | rfl | decide | assumption | omega | exact Nat.le_of_ble_eq_true rfl | exact mulR (by omega) (by omega) | exact mulL (by omega) (by omega) | exact divOk (by omega) (by omega) | exact Exists.intro _ (by assumption)) ?_; (conv => whnf))))
      exact hnx ((least.toNat + (rise * m).toNat + 1) - (step * 2).toNat) _ _ (by omega) ⟨rfl, step * 2, by omega, rfl, rfl⟩
    · (conv => whnf)
      refine w_while (I := fun n τ h'' => h'' = h' ∧ ∃ (low high : Int) (a7 : Option D), cold ≤ low ∧ low ≤ high ∧ least ≤ warmF cold rise st m high ∧ (∀ x, cold ≤ x → x < low → warmF cold rise st m x < least) ∧ n = (high - low).toNat ∧ τ = [some (kitD dials l1 l2 cold rise ovens ts ds), some (bakD o i st m d), some (.int least), some top, some (.int high), some (.int low), some (.int step), a7]) ⟨rfl, cold, cold + step, none, by omega, by omega, by omega, (fun x a b => by omega), rfl, rfl⟩ ?_
      rintro n τ h2 nx2 ⟨rfl, low, high, a7, b1, b2, b3, b4, en, rfl⟩ hnx2
      (conv => whnf); (repeat (first | (refine w_need rfl ?_; (conv => whnf)) | (refine w_ix (by assumption) rfl ?_; (conv => whnf)) | (refine w_ix hupd_same rfl ?_; (conv => whnf)) | (refine w_setL (by assumption) rfl ?_; (conv => whnf)) | (refine w_setL hupd_same rfl ?_; (conv => whnf)) | (refine w_eqi ?_; (conv => whnf)) | (refine w_eqs ?_; (conv => whnf)) | (refine w_t (by first | rfl | decide | assumption) ?_; (conv => whnf)) | (refine w_f (by first | rfl | decide | assumption) ?_; (conv => whnf)) | (refine And.intro (by first | rfl | decide | assumption | omega | exact Nat.le_of_ble_eq_true rfl | exact mulR (by omega) (by omega) | exact mulL (by omega) (by omega) | exact divOk (by omega) (by omega) | exact Exists.intro _ (by assumption)) ?_; (conv => whnf))))
      refine w_ite (fun c => ?_) (fun c => ?_)
      · (conv => whnf); (repeat (first | (refine w_need rfl ?_; (conv => whnf)) | (refine w_ix (by assumption) rfl ?_; (conv => whnf)) | (refine w_ix hupd_same rfl ?_; (conv => whnf)) | (refine w_setL (by assumption) rfl ?_; (conv => whnf)) | (refine w_setL hupd_same rfl ?_; (conv => whnf)) | (refine w_eqi ?_; (conv => whnf)) | (refine w_eqs ?_; (conv => whnf)) | (refine w_t (by first | rfl | decide | assumption) ?_; (conv => whnf)) | (refine w_f (by first | rfl | decide | assumption) ?_; (conv => whnf)) | (refine And.intro (by first | rfl | decide | assumption | omega | exact Nat.le_of_ble_eq_true rfl | exact mulR (by omega) (by omega) | exact mulL (by omega) (by omega) | exact divOk (by omega) (by omega) | exact Exists.intro _ (by assumption)) ?_; (conv => whnf))))
        refine sp_warmth hc0 hc1 hr0 hr1 (by omega) hm2 (by omega) ?_
        (conv => whnf); (repeat (first | (refine w_need rfl ?_; (conv => whnf)) | (refine w_ix (by assumption) rfl ?_; (conv => whnf)) | (refine w_ix hupd_same rfl ?_; (conv => whnf)) | (refine w_setL (by assumption) rfl ?_; (conv => whnf)) | (refine w_setL hupd_same rfl ?_; (conv => whnf)) | (refine w_eqi ?_; (conv => whnf)) | (refine w_eqs ?_; (conv => whnf)) | (refine w_t (by first | rfl | decide | assumption) ?_; (conv => whnf)) | (refine w_f (by first | rfl | decide | assumption) ?_; (conv => whnf)) | (refine And.intro (by first | rfl | decide | assumption | omega | exact Nat.le_of_ble_eq_true rfl | exact mulR (by omega) (by omega) | exact mulL (by omega) (by omega) | exact divOk (by omega) (by omega) | exact Exists.intro _ (by assumption)) ?_; (conv => whnf))))
        refine w_ite (fun c2 => ?_) (fun c2 => ?_)
        · (conv => whnf); (repeat (first | (refine w_need rfl ?_; (conv => whnf)) | (refine w_ix (by assumption) rfl ?_; (conv => whnf)) | (refine w_ix hupd_same rfl ?_; (conv => whnf)) | (refine w_setL (by assumption) rfl ?_; (conv => whnf)) | (refine w_setL hupd_same rfl ?_; (conv => whnf)) | (refine w_eqi ?_; (conv => whnf)) | (refine w_eqs ?_; (conv => whnf)) | (refine w_t (by first | rfl | decide | assumption) ?_; (conv => whnf)) | (refine w_f (by first | rfl | decide | assumption) ?_; (conv => whnf)) | (refine And.intro (by first | rfl | decide | assumption | omega | exact Nat.le_of_ble_eq_true rfl | exact mulR (by omega) (by omega) | exact mulL (by omega) (by omega) | exact divOk (by omega) (by omega) | exact Exists.intro _ (by assumption)) ?_; (conv => whnf))))
          exact hnx2 ((low + high) / 2 - low).toNat _ _ (by omega) ⟨rfl, low, (low + high) / 2, _, b1, by omega, c2, b4, rfl, rfl⟩
        · (conv => whnf); (repeat (first | (refine w_need rfl ?_; (conv => whnf)) | (refine w_ix (by assumption) rfl ?_; (conv => whnf)) | (refine w_ix hupd_same rfl ?_; (conv => whnf)) | (refine w_setL (by assumption) rfl ?_; (conv => whnf)) | (refine w_setL hupd_same rfl ?_; (conv => whnf)) | (refine w_eqi ?_; (conv => whnf)) | (refine w_eqs ?_; (conv => whnf)) | (refine w_t (by first | rfl | decide | assumption) ?_; (conv => whnf)) | (refine w_f (by first | rfl | decide | assumption) ?_; (conv => whnf)) | (refine And.intro (by first | rfl | decide | assumption | omega | exact Nat.le_of_ble_eq_true rfl | exact mulR (by omega) (by omega) | exact mulL (by omega) (by omega) | exact divOk (by omega) (by omega) | exact Exists.intro _ (by assumption)) ?_; (conv => whnf))))
          refine hnx2 (high - ((low + high) / 2 + 1)).toNat _ _ (by omega) ⟨rfl, (low + high) / 2 + 1, high, _, by omega, by omega, b3, fun x a b => ?_, rfl, rfl⟩
          have := warm_mono (m := m) (st := st) (b := (low + high) / 2) hr0 a (by omega) (by omega)
          omega
      · (conv => whnf); (repeat (first | (refine w_need rfl ?_; (conv => whnf)) | (refine w_ix (by assumption) rfl ?_; (conv => whnf)) | (refine w_ix hupd_same rfl ?_; (conv => whnf)) | (refine w_setL (by assumption) rfl ?_; (conv => whnf)) | (refine w_setL hupd_same rfl ?_; (conv => whnf)) | (refine w_eqi ?_; (conv => whnf)) | (refine w_eqs ?_; (conv => whnf)) | (refine w_t (by first | rfl | decide | assumption) ?_; (conv => whnf)) | (refine w_f (by first | rfl | decide | assumption) ?_; (conv => whnf)) | (refine And.intro (by first | rfl | decide | assumption | omega | exact Nat.le_of_ble_eq_true rfl | exact mulR (by omega) (by omega) | exact mulL (by omega) (by omega) | exact divOk (by omega) (by omega) | exact Exists.intro _ (by assumption)) ?_; (conv => whnf))))
        have e : low = high := by omega
        subst e
        exact k (some low) ⟨(fun z => nomatch z), fun L z => by cases z; exact ⟨b1, b3, b4⟩⟩
  apply m_least_heat_ap
  (conv => whnf); (repeat (first | (refine w_need rfl ?_; (conv => whnf)) | (refine w_ix (by assumption) rfl ?_; (conv => whnf)) | (refine w_ix hupd_same rfl ?_; (conv => whnf)) | (refine w_setL (by assumption) rfl ?_; (conv => whnf)) | (refine w_setL hupd_same rfl ?_; (conv => whnf)) | (refine w_eqi ?_; (conv => whnf)) | (refine w_eqs ?_; (conv => whnf)) | (refine w_t (by first | rfl | decide | assumption) ?_; (conv => whnf)) | (refine w_f (by first | rfl | decide | assumption) ?_; (conv => whnf)) | (refine And.intro (by first | rfl | decide | assumption | omega | exact Nat.le_of_ble_eq_true rfl | exact mulR (by omega) (by omega) | exact mulL (by omega) (by omega) | exact divOk (by omega) (by omega) | exact Exists.intro _ (by assumption)) ?_; (conv => whnf))))
  refine sp_warmth_none hc0 hc1 hr0 hr1 (by omega) hm2 (fun e => ?_) (fun e => ?_)
  · (conv => whnf); (repeat (first | (refine w_need rfl ?_; (conv => whnf)) | (refine w_ix (by assumption) rfl ?_; (conv => whnf)) | (refine w_ix hupd_same rfl ?_; (conv => whnf)) | (refine w_setL (by assumption) rfl ?_; (conv => whnf)) | (refine w_setL hupd_same rfl ?_; (conv => whnf)) | (refine w_eqi ?_; (conv => whnf)) | (refine w_eqs ?_; (conv => whnf)) | (refine w_t (by first | rfl | decide | assumption) ?_; (conv => whnf)) | (refine w_f (by first | rfl | decide | assumption) ?_; (conv => whnf)) | (refine And.intro (by first | rfl | decide | assumption | omega | exact Nat.le_of_ble_eq_true rfl | exact mulR (by omega) (by omega) | exact mulL (by omega) (by omega) | exact divOk (by omega) (by omega) | exact Exists.intro _ (by assumption)) ?_; (conv => whnf))))
    exact rest .non (fun z => absurd e z)
  · (conv => whnf); (repeat (first | (refine w_need rfl ?_; (conv => whnf)) | (refine w_ix (by assumption) rfl ?_; (conv => whnf)) | (refine w_ix hupd_same rfl ?_; (conv => whnf)) | (refine w_setL (by assumption) rfl ?_; (conv => whnf)) | (refine w_setL hupd_same rfl ?_; (conv => whnf)) | (refine w_eqi ?_; (conv => whnf)) | (refine w_eqs ?_; (conv => whnf)) | (refine w_t (by first | rfl | decide | assumption) ?_; (conv => whnf)) | (refine w_f (by first | rfl | decide | assumption) ?_; (conv => whnf)) | (refine And.intro (by first | rfl | decide | assumption | omega | exact Nat.le_of_ble_eq_true rfl | exact mulR (by omega) (by omega) | exact mulL (by omega) (by omega) | exact divOk (by omega) (by omega) | exact Exists.intro _ (by assumption)) ?_; (conv => whnf))))
    refine w_ite (fun c => ?_) (fun c => ?_)
    · (conv => whnf); (repeat (first | (refine w_need rfl ?_; (conv => whnf)) | (refine w_ix (by assumption) rfl ?_; (conv => whnf)) | (refine w_ix hupd_same rfl ?_; (conv => whnf)) | (refine w_setL (by assumption) rfl ?_; (conv => whnf)) | (refine w_setL hupd_same rfl ?_; (conv => whnf)) | (refine w_eqi ?_; (conv => whnf)) | (refine w_eqs ?_; (conv => whnf)) | (refine w_t (by first | rfl | decide | assumption) ?_; (conv => whnf)) | (refine w_f (by first | rfl | decide | assumption) ?_; (conv => whnf)) | (refine And.intro (by first | rfl | decide | assumption | omega | exact Nat.le_of_ble_eq_true rfl | exact mulR (by omega) (by omega) | exact mulL (by omega) (by omega) | exact divOk (by omega) (by omega) | exact Exists.intro _ (by assumption)) ?_; (conv => whnf))))
      refine k none ⟨fun _ x hx => ?_, fun L z => nomatch z⟩
      have := warm_le_top (m := m) hr0 (by omega) e hx
      omega
    · (conv => whnf); (repeat (first | (refine w_need rfl ?_; (conv => whnf)) | (refine w_ix (by assumption) rfl ?_; (conv => whnf)) | (refine w_ix hupd_same rfl ?_; (conv => whnf)) | (refine w_setL (by assumption) rfl ?_; (conv => whnf)) | (refine w_setL hupd_same rfl ?_; (conv => whnf)) | (refine w_eqi ?_; (conv => whnf)) | (refine w_eqs ?_; (conv => whnf)) | (refine w_t (by first | rfl | decide | assumption) ?_; (conv => whnf)) | (refine w_f (by first | rfl | decide | assumption) ?_; (conv => whnf)) | (refine And.intro (by first | rfl | decide | assumption | omega | exact Nat.le_of_ble_eq_true rfl | exact mulR (by omega) (by omega) | exact mulL (by omega) (by omega) | exact divOk (by omega) (by omega) | exact Exists.intro _ (by assumption)) ?_; (conv => whnf))))
      exact rest (.int _) (fun _ => by omega)
def outF (lo hi w : Int) : Str := if w < lo then "raw" else if hi < w then "burnt" else "right"
theorem dish_at {ds : List (List Int)} {d : Int} {k : List Int} (hd : 0 ≤ d) (e : ds[d.toNat]? = some k) : getI (ds.map tupI) (.int d) = some (tupI k) := by
  obtain ⟨hl, e2⟩ := List.getElem?_eq_some_iff.mp e
  have := atI_nat (xs := ds.map tupI) hd (by rw [List.length_map]; exact hl)
  rw [List.getElem_map, e2] at this
  exact this
theorem sp_outcome {h : DH} {dials l1 l2 cold rise ovens lo hi heat : Int} {ts ds : List (List Int)} {o i m d : Int} {st : Str} {Q : DK} (hc0 : 0 ≤ cold) (hc1 : cold < 2 ^ 60) (hr0 : 1 ≤ rise) (hr1 : rise < 2 ^ 60) (hm : 0 ≤ m) (hm2 : m < 2 ^ 60) (hh : cold ≤ heat)
    (hd : 0 ≤ d) (ed : ds[d.toNat]? = some [lo, hi]) (k : Q (.str (outF lo hi (warmF cold rise st m heat))) h) : m_outcome [kitD dials l1 l2 cold rise ovens ts ds, bakD o i st m d, .int heat] h Q := by
  apply m_outcome_ap
  (conv => whnf); (repeat (first | (refine w_need rfl ?_; (conv => whnf)) | (refine w_ix (by assumption) rfl ?_; (conv => whnf)) | (refine w_ix hupd_same rfl ?_; (conv => whnf)) | (refine w_setL (by assumption) rfl ?_; (conv => whnf)) | (refine w_setL hupd_same rfl ?_; (conv => whnf)) | (refine w_eqi ?_; (conv => whnf)) | (refine w_eqs ?_; (conv => whnf)) | (refine w_t (by first | rfl | decide | assumption) ?_; (conv => whnf)) | (refine w_f (by first | rfl | decide | assumption) ?_; (conv => whnf)) | (refine And.intro (by first | rfl | decide | assumption | omega | exact Nat.le_of_ble_eq_true rfl | exact mulR (by omega) (by omega) | exact mulL (by omega) (by omega) | exact divOk (by omega) (by omega) | exact Exists.intro _ (by assumption)) ?_; (conv => whnf))))
  refine w_need (dish_at hd ed) ?_
  (conv => whnf); (repeat (first | (refine w_need rfl ?_; (conv => whnf)) | (refine w_ix (by assumption) rfl ?_; (conv => whnf)) | (refine w_ix hupd_same rfl ?_; (conv => whnf)) | (refine w_setL (by assumption) rfl ?_; (conv => whnf)) | (refine w_setL hupd_same rfl ?_; (conv => whnf)) | (refine w_eqi ?_; (conv => whnf)) | (refine w_eqs ?_; (conv => whnf)) | (refine w_t (by first | rfl | decide | assumption) ?_; (conv => whnf)) | (refine w_f (by first | rfl | decide | assumption) ?_; (conv => whnf)) | (refine And.intro (by first | rfl | decide | assumption | omega | exact Nat.le_of_ble_eq_true rfl | exact mulR (by omega) (by omega) | exact mulL (by omega) (by omega) | exact divOk (by omega) (by omega) | exact Exists.intro _ (by assumption)) ?_; (conv => whnf))))
  refine sp_warmth hc0 hc1 hr0 hr1 hm hm2 hh ?_
  unfold outF at k
  (conv => whnf); (repeat (first | (refine w_need rfl ?_; (conv => whnf)) | (refine w_ix (by assumption) rfl ?_; (conv => whnf)) | (refine w_ix hupd_same rfl ?_; (conv => whnf)) | (refine w_setL (by assumption) rfl ?_; (conv => whnf)) | (refine w_setL hupd_same rfl ?_; (conv => whnf)) | (refine w_eqi ?_; (conv => whnf)) | (refine w_eqs ?_; (conv => whnf)) | (refine w_t (by first | rfl | decide | assumption) ?_; (conv => whnf)) | (refine w_f (by first | rfl | decide | assumption) ?_; (conv => whnf)) | (refine And.intro (by first | rfl | decide | assumption | omega | exact Nat.le_of_ble_eq_true rfl | exact mulR (by omega) (by omega) | exact mulL (by omega) (by omega) | exact divOk (by omega) (by omega) | exact Exists.intro _ (by assumption)) ?_; (conv => whnf))))
  refine w_ite (fun c => ?_) (fun c => ?_)
  · rw [if_pos c] at k
    (conv => whnf); (repeat (first | (refine w_need rfl ?_; (conv => whnf)) | (refine w_ix (by assumption) rfl ?_; (conv => whnf)) | (refine w_ix hupd_same rfl ?_; (conv => whnf)) | (refine w_setL (by assumption) rfl ?_; (conv => whnf)) | (refine w_setL hupd_same rfl ?_; (conv => whnf)) | (refine w_eqi ?_; (conv => whnf)) | (refine w_eqs ?_; (conv => whnf)) | (refine w_t (by first | rfl | decide | assumption) ?_; (conv => whnf)) | (refine w_f (by first | rfl | decide | assumption) ?_; (conv => whnf)) | (refine And.intro (by first | rfl | decide | assumption | omega | exact Nat.le_of_ble_eq_true rfl | exact mulR (by omega) (by omega) | exact mulL (by omega) (by omega) | exact divOk (by omega) (by omega) | exact Exists.intro _ (by assumption)) ?_; (conv => whnf))))
    exact k
  · rw [if_neg c] at k
    (conv => whnf); (repeat (first | (refine w_need rfl ?_; (conv => whnf)) | (refine w_ix (by assumption) rfl ?_; (conv => whnf)) | (refine w_ix hupd_same rfl ?_; (conv => whnf)) | (refine w_setL (by assumption) rfl ?_; (conv => whnf)) | (refine w_setL hupd_same rfl ?_; (conv => whnf)) | (refine w_eqi ?_; (conv => whnf)) | (refine w_eqs ?_; (conv => whnf)) | (refine w_t (by first | rfl | decide | assumption) ?_; (conv => whnf)) | (refine w_f (by first | rfl | decide | assumption) ?_; (conv => whnf)) | (refine And.intro (by first | rfl | decide | assumption | omega | exact Nat.le_of_ble_eq_true rfl | exact mulR (by omega) (by omega) | exact mulL (by omega) (by omega) | exact divOk (by omega) (by omega) | exact Exists.intro _ (by assumption)) ?_; (conv => whnf))))
    refine w_ite (fun c => ?_) (fun c => ?_)
    · rw [if_pos c] at k
      (conv => whnf); (repeat (first | (refine w_need rfl ?_; (conv => whnf)) | (refine w_ix (by assumption) rfl ?_; (conv => whnf)) | (refine w_ix hupd_same rfl ?_; (conv => whnf)) | (refine w_setL (by assumption) rfl ?_; (conv => whnf)) | (refine w_setL hupd_same rfl ?_; (conv => whnf)) | (refine w_eqi ?_; (conv => whnf)) | (refine w_eqs ?_; (conv => whnf)) | (refine w_t (by first | rfl | decide | assumption) ?_; (conv => whnf)) | (refine w_f (by first | rfl | decide | assumption) ?_; (conv => whnf)) | (refine And.intro (by first | rfl | decide | assumption | omega | exact Nat.le_of_ble_eq_true rfl | exact mulR (by omega) (by omega) | exact mulL (by omega) (by omega) | exact divOk (by omega) (by omega) | exact Exists.intro _ (by assumption)) ?_; (conv => whnf))))
      exact k
    · rw [if_neg c] at k
      (conv => whnf); (repeat (first | (refine w_need rfl ?_; (conv => whnf)) | (refine w_ix (by assumption) rfl ?_; (conv => whnf)) | (refine w_ix hupd_same rfl ?_; (conv => whnf)) | (refine w_setL (by assumption) rfl ?_; (conv => whnf)) | (refine w_setL hupd_same rfl ?_; (conv => whnf)) | (refine w_eqi ?_; (conv => whnf)) | (refine w_eqs ?_; (conv => whnf)) | (refine w_t (by first | rfl | decide | assumption) ?_; (conv => whnf)) | (refine w_f (by first | rfl | decide | assumption) ?_; (conv => whnf)) | (refine And.intro (by first | rfl | decide | assumption | omega | exact Nat.le_of_ble_eq_true rfl | exact mulR (by omega) (by omega) | exact mulL (by omega) (by omega) | exact divOk (by omega) (by omega) | exact Exists.intro _ (by assumption)) ?_; (conv => whnf))))
      exact k
def heatsO (word : Str) (cold : Int) (o1 o2 : Option Int) : Option (Int × Option Int) :=
  match (if word = "raw" then (some cold, o1) else if word = "right" then (o1, o2) else (o2, none) : Option Int × Option Int) with
  | (none, _) => none
  | (some b, none) => some (b, none)
  | (some b, some e) => if e ≤ b then none else some (b, some (e - 1))
def heatsD : Option (Int × Option Int) → D
  | none => .non
  | some (b, e) => .tup [.int b, optD e]
theorem sp_heats_for {h : DH} {dials l1 l2 cold rise ovens lo hi : Int} {ts ds : List (List Int)} {o i m d : Int} {st word : Str} {Q : DK} (hc0 : 0 ≤ cold) (hc1 : cold < 2 ^ 60) (hr0 : 1 ≤ rise) (hr1 : rise < 2 ^ 60) (hm : 1 ≤ m) (hm2 : m < 2 ^ 60)
    (hd : 0 ≤ d) (ed : ds[d.toNat]? = some [lo, hi]) (k : ∀ o1 o2, FirstIs (warmF cold rise st m) cold lo o1 → FirstIs (warmF cold rise st m) cold (hi + 1) o2 → Q (heatsD (heatsO word cold o1 o2)) h) : m_heats_for [kitD dials l1 l2 cold rise ovens ts ds, bakD o i st m d, .str word] h Q := by
  apply m_heats_for_ap
  (conv => whnf); (repeat (first | (refine w_need rfl ?_; (conv => whnf)) | (refine w_ix (by assumption) rfl ?_; (conv => whnf)) | (refine w_ix hupd_same rfl ?_; (conv => whnf)) | (refine w_setL (by assumption) rfl ?_; (conv => whnf)) | (refine w_setL hupd_same rfl ?_; (conv => whnf)) | (refine w_eqi ?_; (conv => whnf)) | (refine w_eqs ?_; (conv => whnf)) | (refine w_t (by first | rfl | decide | assumption) ?_; (conv => whnf)) | (refine w_f (by first | rfl | decide | assumption) ?_; (conv => whnf)) | (refine And.intro (by first | rfl | decide | assumption | omega | exact Nat.le_of_ble_eq_true rfl | exact mulR (by omega) (by omega) | exact mulL (by omega) (by omega) | exact divOk (by omega) (by omega) | exact Exists.intro _ (by assumption)) ?_; (conv => whnf))))
  refine w_need (dish_at hd ed) ?_
  (conv => whnf); (repeat (first | (refine w_need rfl ?_; (conv => whnf)) | (refine w_ix (by assumption) rfl ?_; (conv => whnf)) | (refine w_ix hupd_same rfl ?_; (conv => whnf)) | (refine w_setL (by assumption) rfl ?_; (conv => whnf)) | (refine w_setL hupd_same rfl ?_; (conv => whnf)) | (refine w_eqi ?_; (conv => whnf)) | (refine w_eqs ?_; (conv => whnf)) | (refine w_t (by first | rfl | decide | assumption) ?_; (conv => whnf)) | (refine w_f (by first | rfl | decide | assumption) ?_; (conv => whnf)) | (refine And.intro (by first | rfl | decide | assumption | omega | exact Nat.le_of_ble_eq_true rfl | exact mulR (by omega) (by omega) | exact mulL (by omega) (by omega) | exact divOk (by omega) (by omega) | exact Exists.intro _ (by assumption)) ?_; (conv => whnf))))
  refine sp_least_heat hc0 hc1 hr0 hr1 hm hm2 fun o1 f1 => ?_
  (conv => whnf); (repeat (first | (refine w_need rfl ?_; (conv => whnf)) | (refine w_ix (by assumption) rfl ?_; (conv => whnf)) | (refine w_ix hupd_same rfl ?_; (conv => whnf)) | (refine w_setL (by assumption) rfl ?_; (conv => whnf)) | (refine w_setL hupd_same rfl ?_; (conv => whnf)) | (refine w_eqi ?_; (conv => whnf)) | (refine w_eqs ?_; (conv => whnf)) | (refine w_t (by first | rfl | decide | assumption) ?_; (conv => whnf)) | (refine w_f (by first | rfl | decide | assumption) ?_; (conv => whnf)) | (refine And.intro (by first | rfl | decide | assumption | omega | exact Nat.le_of_ble_eq_true rfl | exact mulR (by omega) (by omega) | exact mulL (by omega) (by omega) | exact divOk (by omega) (by omega) | exact Exists.intro _ (by assumption)) ?_; (conv => whnf))))
  refine sp_least_heat hc0 hc1 hr0 hr1 hm hm2 fun o2 f2 => ?_
  have k := k o1 o2 f1 f2
  unfold heatsO at k
  (conv => whnf); (repeat (first | (refine w_need rfl ?_; (conv => whnf)) | (refine w_ix (by assumption) rfl ?_; (conv => whnf)) | (refine w_ix hupd_same rfl ?_; (conv => whnf)) | (refine w_setL (by assumption) rfl ?_; (conv => whnf)) | (refine w_setL hupd_same rfl ?_; (conv => whnf)) | (refine w_eqi ?_; (conv => whnf)) | (refine w_eqs ?_; (conv => whnf)) | (refine w_t (by first | rfl | decide | assumption) ?_; (conv => whnf)) | (refine w_f (by first | rfl | decide | assumption) ?_; (conv => whnf)) | (refine And.intro (by first | rfl | decide | assumption | omega | exact Nat.le_of_ble_eq_true rfl | exact mulR (by omega) (by omega) | exact mulL (by omega) (by omega) | exact divOk (by omega) (by omega) | exact Exists.intro _ (by assumption)) ?_; (conv => whnf))))
  refine w_ite (fun c => ?_) (fun c => ?_)
  · rw [if_pos c] at k
    cases o1 with
    | none => (conv => whnf); (repeat (first | (refine w_need rfl ?_; (conv => whnf)) | (refine w_ix (by assumption) rfl ?_; (conv => whnf)) | (refine w_ix hupd_same rfl ?_; (conv => whnf)) | (refine w_setL (by assumption) rfl ?_; (conv => whnf)) | (refine w_setL hupd_same rfl ?_; (conv => whnf)) | (refine w_eqi ?_; (conv => whnf)) | (refine w_eqs ?_; (conv => whnf)) | (refine w_t (by first | rfl | decide | assumption) ?_; (conv => whnf)) | (refine w_f (by first | rfl | decide | assumption) ?_; (conv => whnf)) | (refine And.intro (by first | rfl | decide | assumption | omega | exact Nat.le_of_ble_eq_true rfl | exact mulR (by omega) (by omega) | exact mulL (by omega) (by omega) | exact divOk (by omega) (by omega) | exact Exists.intro _ (by assumption)) ?_; (conv => whnf)))); exact k
    | some e =>
      (conv => whnf); (repeat (first | (refine w_need rfl ?_; (conv => whnf)) | (refine w_ix (by assumption) rfl ?_; (conv => whnf)) | (refine w_ix hupd_same rfl ?_; (conv => whnf)) | (refine w_setL (by assumption) rfl ?_; (conv => whnf)) | (refine w_setL hupd_same rfl ?_; (conv => whnf)) | (refine w_eqi ?_; (conv => whnf)) | (refine w_eqs ?_; (conv => whnf)) | (refine w_t (by first | rfl | decide | assumption) ?_; (conv => whnf)) | (refine w_f (by first | rfl | decide | assumption) ?_; (conv => whnf)) | (refine And.intro (by first | rfl | decide | assumption | omega | exact Nat.le_of_ble_eq_true rfl | exact mulR (by omega) (by omega) | exact mulL (by omega) (by omega) | exact divOk (by omega) (by omega) | exact Exists.intro _ (by assumption)) ?_; (conv => whnf))))
      refine w_ite (fun c => ?_) (fun c => ?_)
      · dsimp only at k
        rw [if_pos c] at k
        (conv => whnf); (repeat (first | (refine w_need rfl ?_; (conv => whnf)) | (refine w_ix (by assumption) rfl ?_; (conv => whnf)) | (refine w_ix hupd_same rfl ?_; (conv => whnf)) | (refine w_setL (by assumption) rfl ?_; (conv => whnf)) | (refine w_setL hupd_same rfl ?_; (conv => whnf)) | (refine w_eqi ?_; (conv => whnf)) | (refine w_eqs ?_; (conv => whnf)) | (refine w_t (by first | rfl | decide | assumption) ?_; (conv => whnf)) | (refine w_f (by first | rfl | decide | assumption) ?_; (conv => whnf)) | (refine And.intro (by first | rfl | decide | assumption | omega | exact Nat.le_of_ble_eq_true rfl | exact mulR (by omega) (by omega) | exact mulL (by omega) (by omega) | exact divOk (by omega) (by omega) | exact Exists.intro _ (by assumption)) ?_; (conv => whnf))))
        exact k
      · dsimp only at k
        rw [if_neg c] at k
        (conv => whnf); (repeat (first | (refine w_need rfl ?_; (conv => whnf)) | (refine w_ix (by assumption) rfl ?_; (conv => whnf)) | (refine w_ix hupd_same rfl ?_; (conv => whnf)) | (refine w_setL (by assumption) rfl ?_; (conv => whnf)) | (refine w_setL hupd_same rfl ?_; (conv => whnf)) | (refine w_eqi ?_; (conv => whnf)) | (refine w_eqs ?_; (conv => whnf)) | (refine w_t (by first | rfl | decide | assumption) ?_; (conv => whnf)) | (refine w_f (by first | rfl | decide | assumption) ?_; (conv => whnf)) | (refine And.intro (by first | rfl | decide | assumption | omega | exact Nat.le_of_ble_eq_true rfl | exact mulR (by omega) (by omega) | exact mulL (by omega) (by omega) | exact divOk (by omega) (by omega) | exact Exists.intro _ (by assumption)) ?_; (conv => whnf))))
        exact k
  · rw [if_neg c] at k
    (conv => whnf); (repeat (first | (refine w_need rfl ?_; (conv => whnf)) | (refine w_ix (by assumption) rfl ?_; (conv => whnf)) | (refine w_ix hupd_same rfl ?_; (conv => whnf)) | (refine w_setL (by assumption) rfl ?_; (conv => whnf)) | (refine w_setL hupd_same rfl ?_; (conv => whnf)) | (refine w_eqi ?_; (conv => whnf)) | (refine w_eqs ?_; (conv => whnf)) | (refine w_t (by first | rfl | decide | assumption) ?_; (conv => whnf)) | (refine w_f (by first | rfl | decide | assumption) ?_; (conv => whnf)) | (refine And.intro (by first | rfl | decide | assumption | omega | exact Nat.le_of_ble_eq_true rfl | exact mulR (by omega) (by omega) | exact mulL (by omega) (by omega) | exact divOk (by omega) (by omega) | exact Exists.intro _ (by assumption)) ?_; (conv => whnf))))
    refine w_ite (fun c => ?_) (fun c => ?_)
    · rw [if_pos c] at k
      cases o1 with
      | none => (conv => whnf); (repeat (first | (refine w_need rfl ?_; (conv => whnf)) | (refine w_ix (by assumption) rfl ?_; (conv => whnf)) | (refine w_ix hupd_same rfl ?_; (conv => whnf)) | (refine w_setL (by assumption) rfl ?_; (conv => whnf)) | (refine w_setL hupd_same rfl ?_; (conv => whnf)) | (refine w_eqi ?_; (conv => whnf)) | (refine w_eqs ?_; (conv => whnf)) | (refine w_t (by first | rfl | decide | assumption) ?_; (conv => whnf)) | (refine w_f (by first | rfl | decide | assumption) ?_; (conv => whnf)) | (refine And.intro (by first | rfl | decide | assumption | omega | exact Nat.le_of_ble_eq_true rfl | exact mulR (by omega) (by omega) | exact mulL (by omega) (by omega) | exact divOk (by omega) (by omega) | exact Exists.intro _ (by assumption)) ?_; (conv => whnf)))); exact k
      | some b =>
        cases o2 with
        | none => (conv => whnf); (repeat (first | (refine w_need rfl ?_; (conv => whnf)) | (refine w_ix (by assumption) rfl ?_; (conv => whnf)) | (refine w_ix hupd_same rfl ?_; (conv => whnf)) | (refine w_setL (by assumption) rfl ?_; (conv => whnf)) | (refine w_setL hupd_same rfl ?_; (conv => whnf)) | (refine w_eqi ?_; (conv => whnf)) | (refine w_eqs ?_; (conv => whnf)) | (refine w_t (by first | rfl | decide | assumption) ?_; (conv => whnf)) | (refine w_f (by first | rfl | decide | assumption) ?_; (conv => whnf)) | (refine And.intro (by first | rfl | decide | assumption | omega | exact Nat.le_of_ble_eq_true rfl | exact mulR (by omega) (by omega) | exact mulL (by omega) (by omega) | exact divOk (by omega) (by omega) | exact Exists.intro _ (by assumption)) ?_; (conv => whnf)))); exact k
        | some e =>
          (conv => whnf); (repeat (first | (refine w_need rfl ?_; (conv => whnf)) | (refine w_ix (by assumption) rfl ?_; (conv => whnf)) | (refine w_ix hupd_same rfl ?_; (conv => whnf)) | (refine w_setL (by assumption) rfl ?_; (conv => whnf)) | (refine w_setL hupd_same rfl ?_; (conv => whnf)) | (refine w_eqi ?_; (conv => whnf)) | (refine w_eqs ?_; (conv => whnf)) | (refine w_t (by first | rfl | decide | assumption) ?_; (conv => whnf)) | (refine w_f (by first | rfl | decide | assumption) ?_; (conv => whnf)) | (refine And.intro (by first | rfl | decide | assumption | omega | exact Nat.le_of_ble_eq_true rfl | exact mulR (by omega) (by omega) | exact mulL (by omega) (by omega) | exact divOk (by omega) (by omega) | exact Exists.intro _ (by assumption)) ?_; (conv => whnf))))
          refine w_ite (fun c => ?_) (fun c => ?_)
          · dsimp only at k
            rw [if_pos c] at k
            (conv => whnf); (repeat (first | (refine w_need rfl ?_; (conv => whnf)) | (refine w_ix (by assumption) rfl ?_; (conv => whnf)) | (refine w_ix hupd_same rfl ?_; (conv => whnf)) | (refine w_setL (by assumption) rfl ?_; (conv => whnf)) | (refine w_setL hupd_same rfl ?_; (conv => whnf)) | (refine w_eqi ?_; (conv => whnf)) | (refine w_eqs ?_; (conv => whnf)) | (refine w_t (by first | rfl | decide | assumption) ?_; (conv => whnf)) | (refine w_f (by first | rfl | decide | assumption) ?_; (conv => whnf)) | (refine And.intro (by first | rfl | decide | assumption | omega | exact Nat.le_of_ble_eq_true rfl | exact mulR (by omega) (by omega) | exact mulL (by omega) (by omega) | exact divOk (by omega) (by omega) | exact Exists.intro _ (by assumption)) ?_; (conv => whnf))))
            exact k
          · dsimp only at k
            rw [if_neg c] at k
            (conv => whnf); (repeat (first | (refine w_need rfl ?_; (conv => whnf)) | (refine w_ix (by assumption) rfl ?_; (conv => whnf)) | (refine w_ix hupd_same rfl ?_; (conv => whnf)) | (refine w_setL (by assumption) rfl ?_; (conv => whnf)) | (refine w_setL hupd_same rfl ?_; (conv => whnf)) | (refine w_eqi ?_; (conv => whnf)) | (refine w_eqs ?_; (conv => whnf)) | (refine w_t (by first | rfl | decide | assumption) ?_; (conv => whnf)) | (refine w_f (by first | rfl | decide | assumption) ?_; (conv => whnf)) | (refine And.intro (by first | rfl | decide | assumption | omega | exact Nat.le_of_ble_eq_true rfl | exact mulR (by omega) (by omega) | exact mulL (by omega) (by omega) | exact divOk (by omega) (by omega) | exact Exists.intro _ (by assumption)) ?_; (conv => whnf))))
            exact k
    · rw [if_neg c] at k
      cases o2 with
      | none => (conv => whnf); (repeat (first | (refine w_need rfl ?_; (conv => whnf)) | (refine w_ix (by assumption) rfl ?_; (conv => whnf)) | (refine w_ix hupd_same rfl ?_; (conv => whnf)) | (refine w_setL (by assumption) rfl ?_; (conv => whnf)) | (refine w_setL hupd_same rfl ?_; (conv => whnf)) | (refine w_eqi ?_; (conv => whnf)) | (refine w_eqs ?_; (conv => whnf)) | (refine w_t (by first | rfl | decide | assumption) ?_; (conv => whnf)) | (refine w_f (by first | rfl | decide | assumption) ?_; (conv => whnf)) | (refine And.intro (by first | rfl | decide | assumption | omega | exact Nat.le_of_ble_eq_true rfl | exact mulR (by omega) (by omega) | exact mulL (by omega) (by omega) | exact divOk (by omega) (by omega) | exact Exists.intro _ (by assumption)) ?_; (conv => whnf)))); exact k
      | some b => (conv => whnf); (repeat (first | (refine w_need rfl ?_; (conv => whnf)) | (refine w_ix (by assumption) rfl ?_; (conv => whnf)) | (refine w_ix hupd_same rfl ?_; (conv => whnf)) | (refine w_setL (by assumption) rfl ?_; (conv => whnf)) | (refine w_setL hupd_same rfl ?_; (conv => whnf)) | (refine w_eqi ?_; (conv => whnf)) | (refine w_eqs ?_; (conv => whnf)) | (refine w_t (by first | rfl | decide | assumption) ?_; (conv => whnf)) | (refine w_f (by first | rfl | decide | assumption) ?_; (conv => whnf)) | (refine And.intro (by first | rfl | decide | assumption | omega | exact Nat.le_of_ble_eq_true rfl | exact mulR (by omega) (by omega) | exact mulL (by omega) (by omega) | exact divOk (by omega) (by omega) | exact Exists.intro _ (by assumption)) ?_; (conv => whnf)))); exact k
end DL

set_option linter.all false
set_option maxRecDepth 100000
namespace DL
open PySem PySem.Spec PyProof.Rows L2
theorem FirstIs.uniq {f : Int → Int} {cold least : Int} {o o' : Option Int} (a : FirstIs f cold least o) (b : FirstIs f cold least o') : o = o' := by
  cases o with
  | none =>
    cases o' with
    | none => rfl
    | some L =>
      obtain ⟨h1, h2, _⟩ := b.some_ L rfl
      have := a.none_ rfl L h1
      omega
  | some L =>
    obtain ⟨h1, h2, h3⟩ := a.some_ L rfl
    cases o' with
    | none => have := b.none_ rfl L h1; omega
    | some M =>
      obtain ⟨k1, k2, k3⟩ := b.some_ M rfl
      by_cases c : L < M
      · have := k3 L h1 c; omega
      · by_cases c2 : M < L
        · have := h3 M k1 c2; omega
        · have : L = M := by omega
          rw [this]
def nextF : Option Int → Option Int → Option (Int × Option Int)
  | none, _ => none
  | some b, none => some (b, none)
  | some b, some e => if e ≤ b then none else some (b, some (e - 1))
theorem heatsO_next {word : Str} {cold : Int} {o1 o2 : Option Int} : heatsO word cold o1 o2 = if word = "raw" then nextF (some cold) o1 else if word = "right" then nextF o1 o2 else nextF o2 none := by
  unfold heatsO
  by_cases h1 : word = "raw"
  · rw [if_pos h1, if_pos h1]
    cases o1 <;> rfl
  · rw [if_neg h1, if_neg h1]
    by_cases h2 : word = "right"
    · rw [if_pos h2, if_pos h2]
      cases o1 with
      | none => rfl
      | some b => cases o2 <;> rfl
    · rw [if_neg h2, if_neg h2]
      cases o2 <;> rfl
theorem first_ex {f : Int → Int} {cold least : Int} (mono : ∀ {a b : Int}, cold ≤ a → a ≤ b → f a ≤ f b) : ∃ o, FirstIs f cold least o := by
  by_cases c : ∃ n : Nat, least ≤ f (cold + n)
  · obtain ⟨n, hn⟩ := c
    have key : ∀ n : Nat, least ≤ f (cold + n) → ∃ L, FirstIs f cold least (some L) := by
      intro n
      induction n with
      | zero => intro q; exact ⟨cold, ⟨(fun z => nomatch z), fun L z => by cases z; exact ⟨Int.le_refl _, by simpa using q, fun x a b => by omega⟩⟩⟩
      | succ n ih =>
        intro q
        by_cases c : least ≤ f (cold + n)
        · exact ih c
        · refine ⟨cold + ((n + 1 : Nat) : Int), ⟨(fun z => nomatch z), fun L z => ?_⟩⟩
          cases z
          refine ⟨by omega, q, fun x a b => ?_⟩
          have := mono (a := x) (b := cold + n) a (by push_cast at b; omega)
          omega
    obtain ⟨L, hL⟩ := key n hn
    exact ⟨some L, hL⟩
  · refine ⟨none, ⟨fun _ x hx => ?_, fun L z => nomatch z⟩⟩
    by_cases q : f x < least
    · exact q
    · exact absurd ⟨(x - cold).toNat, by rw [show cold + ((x - cold).toNat : Int) = x by omega]; omega⟩ c
end DL

set_option linter.all false
set_option maxRecDepth 100000
namespace DL
open PySem PySem.Spec PyProof.Rows L2
theorem ceil_first {m need cold : Int} (hm : 1 ≤ m) : FirstIs (fun x => m * x) cold need (some (if 0 - (0 - need) / m > cold then 0 - (0 - need) / m else cold)) := by
  have d1 := Int.mul_ediv_add_emod (0 - need) m
  have d2 := Int.emod_nonneg (0 - need) (show m ≠ 0 by omega)
  have d3 := Int.emod_lt_of_pos (0 - need) (show 0 < m by omega)
  generalize (0 - need) / m = q at *
  refine ⟨(fun z => nomatch z), fun L z => ?_⟩
  have mono : ∀ a b : Int, a ≤ b → m * a ≤ m * b := fun a b h => Int.mul_le_mul_of_nonneg_left h (by omega)
  have e1 : m * (0 - q) = -(m * q) := by rw [Int.zero_sub, Int.mul_neg]
  have low : ∀ x, x < 0 - q → m * x < need := fun x hx => by
    have := mono (x + 1) (0 - q) (by omega)
    rw [Int.mul_add, Int.mul_one] at this
    omega
  cases z
  split
  · exact ⟨by omega, by omega, fun x _ h => low x h⟩
  · rename_i c
    refine ⟨Int.le_refl _, ?_, fun x a b => by omega⟩
    have := mono (0 - q) cold (by omega)
    omega
theorem warm_is {cold rise m : Int} : warmF cold rise "warm" m = fun x => m * x := by
  funext x
  unfold warmF
  rw [if_pos rfl]
theorem w_ext_first {f g : Int → Int} {cold least : Int} {o : Option Int} (h : FirstIs f cold least o) (e : f = g) : FirstIs g cold least o := e ▸ h
theorem sp_law_first {h : DH} {dials l1 l2 cold rise ovens least : Int} {ts ds : List (List Int)} {o i m d : Int} {st : Str} {Q : DK} (hc0 : 0 ≤ cold) (hc1 : cold < 2 ^ 50) (hr0 : 1 ≤ rise) (hr1 : rise < 2 ^ 50) (hm : 1 ≤ m) (hm2 : m < 2 ^ 50)
    (k : ∀ o, FirstIs (warmF cold rise st m) cold least o → Q (optD o) h) : m_law_first [kitD dials l1 l2 cold rise ovens ts ds, bakD o i st m d, .int least] h Q := by
  have rm0 : 0 ≤ rise * m := Int.mul_nonneg (by omega) (by omega)
  have rm : rise * m ≤ 2 ^ 50 * 2 ^ 50 := Int.mul_le_mul (by omega) (by omega) (by omega) (by decide)
  apply m_law_first_ap
  (conv => whnf); (repeat (first | (refine w_need rfl ?_; (conv => whnf)) | (refine w_ix (by assumption) rfl ?_; (conv => whnf)) | (refine w_ix hupd_same rfl ?_; (conv => whnf)) | (refine w_setL (by assumption) rfl ?_; (conv => whnf)) | (refine w_setL hupd_same rfl ?_; (conv => whnf)) | (refine w_eqi ?_; (conv => whnf)) | (refine w_eqs ?_; (conv => whnf)) | (refine w_t (by first | rfl | decide | assumption) ?_; (conv => whnf)) | (refine w_f (by first | rfl | decide | assumption) ?_; (conv => whnf)) | (refine And.intro (by first | rfl | decide | assumption | omega | exact Nat.le_of_ble_eq_true rfl | exact mulR (by omega) (by omega) | exact mulL (by omega) (by omega) | exact divOk (by omega) (by omega) | exact Exists.intro _ (by assumption)) ?_; (conv => whnf))))
  refine w_ite (fun e => ?_) (fun e => ?_)
  · (conv => whnf); (repeat (first | (refine w_need rfl ?_; (conv => whnf)) | (refine w_ix (by assumption) rfl ?_; (conv => whnf)) | (refine w_ix hupd_same rfl ?_; (conv => whnf)) | (refine w_setL (by assumption) rfl ?_; (conv => whnf)) | (refine w_setL hupd_same rfl ?_; (conv => whnf)) | (refine w_eqi ?_; (conv => whnf)) | (refine w_eqs ?_; (conv => whnf)) | (refine w_t (by first | rfl | decide | assumption) ?_; (conv => whnf)) | (refine w_f (by first | rfl | decide | assumption) ?_; (conv => whnf)) | (refine And.intro (by first | rfl | decide | assumption | omega | exact Nat.le_of_ble_eq_true rfl | exact mulR (by omega) (by omega) | exact mulL (by omega) (by omega) | exact divOk (by omega) (by omega) | exact Exists.intro _ (by assumption)) ?_; (conv => whnf))))
    exact k _ (w_ext_first (ceil_first hm) (by rw [e]; exact warm_is.symm))
  · (conv => whnf); (repeat (first | (refine w_need rfl ?_; (conv => whnf)) | (refine w_ix (by assumption) rfl ?_; (conv => whnf)) | (refine w_ix hupd_same rfl ?_; (conv => whnf)) | (refine w_setL (by assumption) rfl ?_; (conv => whnf)) | (refine w_setL hupd_same rfl ?_; (conv => whnf)) | (refine w_eqi ?_; (conv => whnf)) | (refine w_eqs ?_; (conv => whnf)) | (refine w_t (by first | rfl | decide | assumption) ?_; (conv => whnf)) | (refine w_f (by first | rfl | decide | assumption) ?_; (conv => whnf)) | (refine And.intro (by first | rfl | decide | assumption | omega | exact Nat.le_of_ble_eq_true rfl | exact mulR (by omega) (by omega) | exact mulL (by omega) (by omega) | exact divOk (by omega) (by omega) | exact Exists.intro _ (by assumption)) ?_; (conv => whnf))))
    refine sp_warmthL hc0 (by omega) hr0 (by omega) (by omega) (by omega) (by omega) ?_
    (conv => whnf); (repeat (first | (refine w_need rfl ?_; (conv => whnf)) | (refine w_ix (by assumption) rfl ?_; (conv => whnf)) | (refine w_ix hupd_same rfl ?_; (conv => whnf)) | (refine w_setL (by assumption) rfl ?_; (conv => whnf)) | (refine w_setL hupd_same rfl ?_; (conv => whnf)) | (refine w_eqi ?_; (conv => whnf)) | (refine w_eqs ?_; (conv => whnf)) | (refine w_t (by first | rfl | decide | assumption) ?_; (conv => whnf)) | (refine w_f (by first | rfl | decide | assumption) ?_; (conv => whnf)) | (refine And.intro (by first | rfl | decide | assumption | omega | exact Nat.le_of_ble_eq_true rfl | exact mulR (by omega) (by omega) | exact mulL (by omega) (by omega) | exact divOk (by omega) (by omega) | exact Exists.intro _ (by assumption)) ?_; (conv => whnf))))
    have top := warm_top (m := m) (cold := cold) (st := st) hr0 e (Int.le_refl _)
    refine w_ite (fun c => ?_) (fun c => ?_)
    · (conv => whnf); (repeat (first | (refine w_need rfl ?_; (conv => whnf)) | (refine w_ix (by assumption) rfl ?_; (conv => whnf)) | (refine w_ix hupd_same rfl ?_; (conv => whnf)) | (refine w_setL (by assumption) rfl ?_; (conv => whnf)) | (refine w_setL hupd_same rfl ?_; (conv => whnf)) | (refine w_eqi ?_; (conv => whnf)) | (refine w_eqs ?_; (conv => whnf)) | (refine w_t (by first | rfl | decide | assumption) ?_; (conv => whnf)) | (refine w_f (by first | rfl | decide | assumption) ?_; (conv => whnf)) | (refine And.intro (by first | rfl | decide | assumption | omega | exact Nat.le_of_ble_eq_true rfl | exact mulR (by omega) (by omega) | exact mulL (by omega) (by omega) | exact divOk (by omega) (by omega) | exact Exists.intro _ (by assumption)) ?_; (conv => whnf))))
      refine k none ⟨fun _ x hx => ?_, fun L z => nomatch z⟩
      have := warm_le_top (m := m) hr0 (by omega) e hx
      omega
    · (conv => whnf)
      refine w_for ?_
      (conv => whnf); (repeat (first | (refine w_need rfl ?_; (conv => whnf)) | (refine w_ix (by assumption) rfl ?_; (conv => whnf)) | (refine w_ix hupd_same rfl ?_; (conv => whnf)) | (refine w_setL (by assumption) rfl ?_; (conv => whnf)) | (refine w_setL hupd_same rfl ?_; (conv => whnf)) | (refine w_eqi ?_; (conv => whnf)) | (refine w_eqs ?_; (conv => whnf)) | (refine w_t (by first | rfl | decide | assumption) ?_; (conv => whnf)) | (refine w_f (by first | rfl | decide | assumption) ?_; (conv => whnf)) | (refine And.intro (by first | rfl | decide | assumption | omega | exact Nat.le_of_ble_eq_true rfl | exact mulR (by omega) (by omega) | exact mulL (by omega) (by omega) | exact divOk (by omega) (by omega) | exact Exists.intro _ (by assumption)) ?_; (conv => whnf))))
      refine w_range (I := fun j τ h' => h' = h ∧ ∃ (low high : Int) (a4 a9 : Option D), cold ≤ low ∧ low ≤ high ∧ high - low < 2 ^ (120 - j) ∧ least ≤ warmF cold rise st m high ∧ (∀ x, cold ≤ x → x < low → warmF cold rise st m x < least) ∧ τ = [some (kitD dials l1 l2 cold rise ovens ts ds), some (bakD o i st m d), some (.int least), some (.int m), a4, some (.int cold), some (.int rise), some (.int low), some (.int high), a9]) ⟨rfl, cold, cold + rise * m, none, none, Int.le_refl _, by omega, by omega, by omega, fun x a b => by omega, rfl⟩ ?_ ?_
      · rintro j τ h' nx hj ⟨rfl, low, high, a4, a9, b1, b2, b3, b4, b5, rfl⟩ hnx
        (conv => whnf); (repeat (first | (refine w_need rfl ?_; (conv => whnf)) | (refine w_ix (by assumption) rfl ?_; (conv => whnf)) | (refine w_ix hupd_same rfl ?_; (conv => whnf)) | (refine w_setL (by assumption) rfl ?_; (conv => whnf)) | (refine w_setL hupd_same rfl ?_; (conv => whnf)) | (refine w_eqi ?_; (conv => whnf)) | (refine w_eqs ?_; (conv => whnf)) | (refine w_t (by first | rfl | decide | assumption) ?_; (conv => whnf)) | (refine w_f (by first | rfl | decide | assumption) ?_; (conv => whnf)) | (refine And.intro (by first | rfl | decide | assumption | omega | exact Nat.le_of_ble_eq_true rfl | exact mulR (by omega) (by omega) | exact mulL (by omega) (by omega) | exact divOk (by omega) (by omega) | exact Exists.intro _ (by assumption)) ?_; (conv => whnf))))
        refine w_ite (fun c => ?_) (fun c => ?_)
        · (conv => whnf); (repeat (first | (refine w_need rfl ?_; (conv => whnf)) | (refine w_ix (by assumption) rfl ?_; (conv => whnf)) | (refine w_ix hupd_same rfl ?_; (conv => whnf)) | (refine w_setL (by assumption) rfl ?_; (conv => whnf)) | (refine w_setL hupd_same rfl ?_; (conv => whnf)) | (refine w_eqi ?_; (conv => whnf)) | (refine w_eqs ?_; (conv => whnf)) | (refine w_t (by first | rfl | decide | assumption) ?_; (conv => whnf)) | (refine w_f (by first | rfl | decide | assumption) ?_; (conv => whnf)) | (refine And.intro (by first | rfl | decide | assumption | omega | exact Nat.le_of_ble_eq_true rfl | exact mulR (by omega) (by omega) | exact mulL (by omega) (by omega) | exact divOk (by omega) (by omega) | exact Exists.intro _ (by assumption)) ?_; (conv => whnf))))
          have e : low = high := by omega
          subst e
          exact k (some low) ⟨(fun z => nomatch z), fun L z => by cases z; exact ⟨b1, b4, b5⟩⟩
        · (conv => whnf); (repeat (first | (refine w_need rfl ?_; (conv => whnf)) | (refine w_ix (by assumption) rfl ?_; (conv => whnf)) | (refine w_ix hupd_same rfl ?_; (conv => whnf)) | (refine w_setL (by assumption) rfl ?_; (conv => whnf)) | (refine w_setL hupd_same rfl ?_; (conv => whnf)) | (refine w_eqi ?_; (conv => whnf)) | (refine w_eqs ?_; (conv => whnf)) | (refine w_t (by first | rfl | decide | assumption) ?_; (conv => whnf)) | (refine w_f (by first | rfl | decide | assumption) ?_; (conv => whnf)) | (refine And.intro (by first | rfl | decide | assumption | omega | exact Nat.le_of_ble_eq_true rfl | exact mulR (by omega) (by omega) | exact mulL (by omega) (by omega) | exact divOk (by omega) (by omega) | exact Exists.intro _ (by assumption)) ?_; (conv => whnf))))
          have hj : j < 120 := hj
          have pw : (2 : Int) ^ (120 - j) = 2 * 2 ^ (120 - (j + 1)) := by
            have : 120 - j = (120 - (j + 1)) + 1 := by omega
            rw [this, Int.pow_succ, Int.mul_comm]
          refine sp_warmthL hc0 (by omega) hr0 (by omega) (by omega) (by omega) (by omega) ?_
          (conv => whnf); (repeat (first | (refine w_need rfl ?_; (conv => whnf)) | (refine w_ix (by assumption) rfl ?_; (conv => whnf)) | (refine w_ix hupd_same rfl ?_; (conv => whnf)) | (refine w_setL (by assumption) rfl ?_; (conv => whnf)) | (refine w_setL hupd_same rfl ?_; (conv => whnf)) | (refine w_eqi ?_; (conv => whnf)) | (refine w_eqs ?_; (conv => whnf)) | (refine w_t (by first | rfl | decide | assumption) ?_; (conv => whnf)) | (refine w_f (by first | rfl | decide | assumption) ?_; (conv => whnf)) | (refine And.intro (by first | rfl | decide | assumption | omega | exact Nat.le_of_ble_eq_true rfl | exact mulR (by omega) (by omega) | exact mulL (by omega) (by omega) | exact divOk (by omega) (by omega) | exact Exists.intro _ (by assumption)) ?_; (conv => whnf))))
          refine w_ite (fun c2 => ?_) (fun c2 => ?_)
          · (conv => whnf); (repeat (first | (refine w_need rfl ?_; (conv => whnf)) | (refine w_ix (by assumption) rfl ?_; (conv => whnf)) | (refine w_ix hupd_same rfl ?_; (conv => whnf)) | (refine w_setL (by assumption) rfl ?_; (conv => whnf)) | (refine w_setL hupd_same rfl ?_; (conv => whnf)) | (refine w_eqi ?_; (conv => whnf)) | (refine w_eqs ?_; (conv => whnf)) | (refine w_t (by first | rfl | decide | assumption) ?_; (conv => whnf)) | (refine w_f (by first | rfl | decide | assumption) ?_; (conv => whnf)) | (refine And.intro (by first | rfl | decide | assumption | omega | exact Nat.le_of_ble_eq_true rfl | exact mulR (by omega) (by omega) | exact mulL (by omega) (by omega) | exact divOk (by omega) (by omega) | exact Exists.intro _ (by assumption)) ?_; (conv => whnf))))
            refine hnx _ _ ⟨rfl, (low + high) / 2 + 1, high, _, _, by omega, by omega, by omega, b4, fun x a b => ?_, rfl⟩
            have := warm_mono (m := m) (st := st) (b := (low + high) / 2) hr0 a (by omega) (by omega)
            omega
          · (conv => whnf); (repeat (first | (refine w_need rfl ?_; (conv => whnf)) | (refine w_ix (by assumption) rfl ?_; (conv => whnf)) | (refine w_ix hupd_same rfl ?_; (conv => whnf)) | (refine w_setL (by assumption) rfl ?_; (conv => whnf)) | (refine w_setL hupd_same rfl ?_; (conv => whnf)) | (refine w_eqi ?_; (conv => whnf)) | (refine w_eqs ?_; (conv => whnf)) | (refine w_t (by first | rfl | decide | assumption) ?_; (conv => whnf)) | (refine w_f (by first | rfl | decide | assumption) ?_; (conv => whnf)) | (refine And.intro (by first | rfl | decide | assumption | omega | exact Nat.le_of_ble_eq_true rfl | exact mulR (by omega) (by omega) | exact mulL (by omega) (by omega) | exact divOk (by omega) (by omega) | exact Exists.intro _ (by assumption)) ?_; (conv => whnf))))
            exact hnx _ _ ⟨rfl, low, (low + high) / 2, _, _, b1, by omega, by omega, by omega, b5, rfl⟩
      · rintro τ h' ⟨rfl, low, high, a4, a9, b1, b2, b3, b4, b5, rfl⟩
        (conv => whnf); (repeat (first | (refine w_need rfl ?_; (conv => whnf)) | (refine w_ix (by assumption) rfl ?_; (conv => whnf)) | (refine w_ix hupd_same rfl ?_; (conv => whnf)) | (refine w_setL (by assumption) rfl ?_; (conv => whnf)) | (refine w_setL hupd_same rfl ?_; (conv => whnf)) | (refine w_eqi ?_; (conv => whnf)) | (refine w_eqs ?_; (conv => whnf)) | (refine w_t (by first | rfl | decide | assumption) ?_; (conv => whnf)) | (refine w_f (by first | rfl | decide | assumption) ?_; (conv => whnf)) | (refine And.intro (by first | rfl | decide | assumption | omega | exact Nat.le_of_ble_eq_true rfl | exact mulR (by omega) (by omega) | exact mulL (by omega) (by omega) | exact divOk (by omega) (by omega) | exact Exists.intro _ (by assumption)) ?_; (conv => whnf))))
        have b3 : high - low < 2 ^ 0 := b3
        have e : low = high := by omega
        subst e
        exact k (some low) ⟨(fun z => nomatch z), fun L z => by cases z; exact ⟨b1, b4, b5⟩⟩
theorem sp_law_outcome {h : DH} {dials l1 l2 cold rise ovens lo hi heat : Int} {ts ds : List (List Int)} {o i m d : Int} {st : Str} {Q : DK} (hc0 : 0 ≤ cold) (hc1 : cold < 2 ^ 60) (hr0 : 1 ≤ rise) (hr1 : rise < 2 ^ 60) (hm : 0 ≤ m) (hm2 : m < 2 ^ 60) (hh : cold ≤ heat)
    (hd : 0 ≤ d) (ed : ds[d.toNat]? = some [lo, hi]) (k : Q (.str (outF lo hi (warmF cold rise st m heat))) h) : m_law_outcome [kitD dials l1 l2 cold rise ovens ts ds, bakD o i st m d, .int heat] h Q := by
  apply m_law_outcome_ap
  (conv => whnf); (repeat (first | (refine w_need rfl ?_; (conv => whnf)) | (refine w_ix (by assumption) rfl ?_; (conv => whnf)) | (refine w_ix hupd_same rfl ?_; (conv => whnf)) | (refine w_setL (by assumption) rfl ?_; (conv => whnf)) | (refine w_setL hupd_same rfl ?_; (conv => whnf)) | (refine w_eqi ?_; (conv => whnf)) | (refine w_eqs ?_; (conv => whnf)) | (refine w_t (by first | rfl | decide | assumption) ?_; (conv => whnf)) | (refine w_f (by first | rfl | decide | assumption) ?_; (conv => whnf)) | (refine And.intro (by first | rfl | decide | assumption | omega | exact Nat.le_of_ble_eq_true rfl | exact mulR (by omega) (by omega) | exact mulL (by omega) (by omega) | exact divOk (by omega) (by omega) | exact Exists.intro _ (by assumption)) ?_; (conv => whnf))))
  refine w_need (dish_at hd ed) ?_
  (conv => whnf); (repeat (first | (refine w_need rfl ?_; (conv => whnf)) | (refine w_ix (by assumption) rfl ?_; (conv => whnf)) | (refine w_ix hupd_same rfl ?_; (conv => whnf)) | (refine w_setL (by assumption) rfl ?_; (conv => whnf)) | (refine w_setL hupd_same rfl ?_; (conv => whnf)) | (refine w_eqi ?_; (conv => whnf)) | (refine w_eqs ?_; (conv => whnf)) | (refine w_t (by first | rfl | decide | assumption) ?_; (conv => whnf)) | (refine w_f (by first | rfl | decide | assumption) ?_; (conv => whnf)) | (refine And.intro (by first | rfl | decide | assumption | omega | exact Nat.le_of_ble_eq_true rfl | exact mulR (by omega) (by omega) | exact mulL (by omega) (by omega) | exact divOk (by omega) (by omega) | exact Exists.intro _ (by assumption)) ?_; (conv => whnf))))
  refine sp_warmthL hc0 hc1 hr0 hr1 hm hm2 hh ?_
  unfold outF at k
  (conv => whnf); (repeat (first | (refine w_need rfl ?_; (conv => whnf)) | (refine w_ix (by assumption) rfl ?_; (conv => whnf)) | (refine w_ix hupd_same rfl ?_; (conv => whnf)) | (refine w_setL (by assumption) rfl ?_; (conv => whnf)) | (refine w_setL hupd_same rfl ?_; (conv => whnf)) | (refine w_eqi ?_; (conv => whnf)) | (refine w_eqs ?_; (conv => whnf)) | (refine w_t (by first | rfl | decide | assumption) ?_; (conv => whnf)) | (refine w_f (by first | rfl | decide | assumption) ?_; (conv => whnf)) | (refine And.intro (by first | rfl | decide | assumption | omega | exact Nat.le_of_ble_eq_true rfl | exact mulR (by omega) (by omega) | exact mulL (by omega) (by omega) | exact divOk (by omega) (by omega) | exact Exists.intro _ (by assumption)) ?_; (conv => whnf))))
  refine w_ite (fun c => ?_) (fun c => ?_)
  · rw [if_pos c] at k
    (conv => whnf); (repeat (first | (refine w_need rfl ?_; (conv => whnf)) | (refine w_ix (by assumption) rfl ?_; (conv => whnf)) | (refine w_ix hupd_same rfl ?_; (conv => whnf)) | (refine w_setL (by assumption) rfl ?_; (conv => whnf)) | (refine w_setL hupd_same rfl ?_; (conv => whnf)) | (refine w_eqi ?_; (conv => whnf)) | (refine w_eqs ?_; (conv => whnf)) | (refine w_t (by first | rfl | decide | assumption) ?_; (conv => whnf)) | (refine w_f (by first | rfl | decide | assumption) ?_; (conv => whnf)) | (refine And.intro (by first | rfl | decide | assumption | omega | exact Nat.le_of_ble_eq_true rfl | exact mulR (by omega) (by omega) | exact mulL (by omega) (by omega) | exact divOk (by omega) (by omega) | exact Exists.intro _ (by assumption)) ?_; (conv => whnf))))
    exact k
  · rw [if_neg c] at k
    (conv => whnf); (repeat (first | (refine w_need rfl ?_; (conv => whnf)) | (refine w_ix (by assumption) rfl ?_; (conv => whnf)) | (refine w_ix hupd_same rfl ?_; (conv => whnf)) | (refine w_setL (by assumption) rfl ?_; (conv => whnf)) | (refine w_setL hupd_same rfl ?_; (conv => whnf)) | (refine w_eqi ?_; (conv => whnf)) | (refine w_eqs ?_; (conv => whnf)) | (refine w_t (by first | rfl | decide | assumption) ?_; (conv => whnf)) | (refine w_f (by first | rfl | decide | assumption) ?_; (conv => whnf)) | (refine And.intro (by first | rfl | decide | assumption | omega | exact Nat.le_of_ble_eq_true rfl | exact mulR (by omega) (by omega) | exact mulL (by omega) (by omega) | exact divOk (by omega) (by omega) | exact Exists.intro _ (by assumption)) ?_; (conv => whnf))))
    refine w_ite (fun c => ?_) (fun c => ?_)
    · rw [if_pos c] at k
      (conv => whnf); (repeat (first | (refine w_need rfl ?_; (conv => whnf)) | (refine w_ix (by assumption) rfl ?_; (conv => whnf)) | (refine w_ix hupd_same rfl ?_; (conv => whnf)) | (refine w_setL (by assumption) rfl ?_; (conv => whnf)) | (refine w_setL hupd_same rfl ?_; (conv => whnf)) | (refine w_eqi ?_; (conv => whnf)) | (refine w_eqs ?_; (conv => whnf)) | (refine w_t (by first | rfl | decide | assumption) ?_; (conv => whnf)) | (refine w_f (by first | rfl | decide | assumption) ?_; (conv => whnf)) | (refine And.intro (by first | rfl | decide | assumption | omega | exact Nat.le_of_ble_eq_true rfl | exact mulR (by omega) (by omega) | exact mulL (by omega) (by omega) | exact divOk (by omega) (by omega) | exact Exists.intro _ (by assumption)) ?_; (conv => whnf))))
      exact k
    · rw [if_neg c] at k
      (conv => whnf); (repeat (first | (refine w_need rfl ?_; (conv => whnf)) | (refine w_ix (by assumption) rfl ?_; (conv => whnf)) | (refine w_ix hupd_same rfl ?_; (conv => whnf)) | (refine w_setL (by assumption) rfl ?_; (conv => whnf)) | (refine w_setL hupd_same rfl ?_; (conv => whnf)) | (refine w_eqi ?_; (conv => whnf)) | (refine w_eqs ?_; (conv => whnf)) | (refine w_t (by first | rfl | decide | assumption) ?_; (conv => whnf)) | (refine w_f (by first | rfl | decide | assumption) ?_; (conv => whnf)) | (refine And.intro (by first | rfl | decide | assumption | omega | exact Nat.le_of_ble_eq_true rfl | exact mulR (by omega) (by omega) | exact mulL (by omega) (by omega) | exact divOk (by omega) (by omega) | exact Exists.intro _ (by assumption)) ?_; (conv => whnf))))
      exact k
end DL

set_option linter.all false
set_option maxRecDepth 100000
namespace DL
open PySem PySem.Spec PyProof.Rows L2
theorem w_getK {a : Addr} {kvs : List (Key × D)} {y : Str} {v : D} {h : DH} {Q : DK} (e : h a = some (.dK kvs)) (g : valD kvs (.inr y) = some v) (k : Q v h) : need (ixD h (.loc a) (.str y)) h Q := w_need (by show getO (h a) _ = _; rw [e]; exact g) k
theorem three_val {x y z : D} {word : Str} (hw : word = "raw" ∨ word = "right" ∨ word = "burnt") : valD (mergeD [] [(.inr (Str.ofString "raw"), x), (.inr (Str.ofString "right"), y), (.inr (Str.ofString "burnt"), z)]) (.inr word) = some (if word = "raw" then x else if word = "right" then y else z) := by
  unfold mergeD
  simp only [List.foldl_cons, List.foldl_nil]
  rw [valD_put, valD_put, valD_put]
  have n1 : (Str.ofString "raw" : Str) ≠ Str.ofString "right" := by decide
  have n2 : (Str.ofString "raw" : Str) ≠ Str.ofString "burnt" := by decide
  have n3 : (Str.ofString "right" : Str) ≠ Str.ofString "burnt" := by decide
  rcases hw with rfl | rfl | rfl
  · simp [n1, n2]
  · simp [n1.symm, n3]
  · simp [n2.symm, n3.symm]
theorem sp_law_heats {h : DH} {dials l1 l2 cold rise ovens lo hi : Int} {ts ds : List (List Int)} {o i m d : Int} {st word : Str} {Q : DK} (hc0 : 0 ≤ cold) (hc1 : cold < 2 ^ 50) (hr0 : 1 ≤ rise) (hr1 : rise < 2 ^ 50) (hm : 1 ≤ m) (hm2 : m < 2 ^ 50)
    (hd : 0 ≤ d) (ed : ds[d.toNat]? = some [lo, hi]) (hword : word = "raw" ∨ word = "right" ∨ word = "burnt") (k : ∀ o1 o2 h', Ext h h' → FirstIs (warmF cold rise st m) cold lo o1 → FirstIs (warmF cold rise st m) cold (hi + 1) o2 → Q (heatsD (heatsO word cold o1 o2)) h') : m_law_heats [kitD dials l1 l2 cold rise ovens ts ds, bakD o i st m d, .str word] h Q := by
  apply m_law_heats_ap
  (conv => whnf); (repeat (first | (refine w_need rfl ?_; (conv => whnf)) | (refine w_ix (by assumption) rfl ?_; (conv => whnf)) | (refine w_ix hupd_same rfl ?_; (conv => whnf)) | (refine w_setL (by assumption) rfl ?_; (conv => whnf)) | (refine w_setL hupd_same rfl ?_; (conv => whnf)) | (refine w_eqi ?_; (conv => whnf)) | (refine w_eqs ?_; (conv => whnf)) | (refine w_t (by first | rfl | decide | assumption) ?_; (conv => whnf)) | (refine w_f (by first | rfl | decide | assumption) ?_; (conv => whnf)) | (refine And.intro (by first | rfl | decide | assumption | omega | exact Nat.le_of_ble_eq_true rfl | exact mulR (by omega) (by omega) | exact mulL (by omega) (by omega) | exact divOk (by omega) (by omega) | exact Exists.intro _ (by assumption)) ?_; (conv => whnf))))
  refine w_need (dish_at hd ed) ?_
  (conv => whnf); (repeat (first | (refine w_need rfl ?_; (conv => whnf)) | (refine w_ix (by assumption) rfl ?_; (conv => whnf)) | (refine w_ix hupd_same rfl ?_; (conv => whnf)) | (refine w_setL (by assumption) rfl ?_; (conv => whnf)) | (refine w_setL hupd_same rfl ?_; (conv => whnf)) | (refine w_eqi ?_; (conv => whnf)) | (refine w_eqs ?_; (conv => whnf)) | (refine w_t (by first | rfl | decide | assumption) ?_; (conv => whnf)) | (refine w_f (by first | rfl | decide | assumption) ?_; (conv => whnf)) | (refine And.intro (by first | rfl | decide | assumption | omega | exact Nat.le_of_ble_eq_true rfl | exact mulR (by omega) (by omega) | exact mulL (by omega) (by omega) | exact divOk (by omega) (by omega) | exact Exists.intro _ (by assumption)) ?_; (conv => whnf))))
  refine sp_law_first hc0 hc1 hr0 hr1 hm hm2 fun o1 f1 => ?_
  (conv => whnf); (repeat (first | (refine w_need rfl ?_; (conv => whnf)) | (refine w_ix (by assumption) rfl ?_; (conv => whnf)) | (refine w_ix hupd_same rfl ?_; (conv => whnf)) | (refine w_setL (by assumption) rfl ?_; (conv => whnf)) | (refine w_setL hupd_same rfl ?_; (conv => whnf)) | (refine w_eqi ?_; (conv => whnf)) | (refine w_eqs ?_; (conv => whnf)) | (refine w_t (by first | rfl | decide | assumption) ?_; (conv => whnf)) | (refine w_f (by first | rfl | decide | assumption) ?_; (conv => whnf)) | (refine And.intro (by first | rfl | decide | assumption | omega | exact Nat.le_of_ble_eq_true rfl | exact mulR (by omega) (by omega) | exact mulL (by omega) (by omega) | exact divOk (by omega) (by omega) | exact Exists.intro _ (by assumption)) ?_; (conv => whnf))))
  refine sp_law_first hc0 hc1 hr0 hr1 hm hm2 fun o2 f2 => ?_
  (conv => whnf)
  intro p hp
  (conv => whnf)
  refine w_need rfl ?_
  (conv => whnf); (repeat (first | (refine w_need rfl ?_; (conv => whnf)) | (refine w_ix (by assumption) rfl ?_; (conv => whnf)) | (refine w_ix hupd_same rfl ?_; (conv => whnf)) | (refine w_setL (by assumption) rfl ?_; (conv => whnf)) | (refine w_setL hupd_same rfl ?_; (conv => whnf)) | (refine w_eqi ?_; (conv => whnf)) | (refine w_eqs ?_; (conv => whnf)) | (refine w_t (by first | rfl | decide | assumption) ?_; (conv => whnf)) | (refine w_f (by first | rfl | decide | assumption) ?_; (conv => whnf)) | (refine And.intro (by first | rfl | decide | assumption | omega | exact Nat.le_of_ble_eq_true rfl | exact mulR (by omega) (by omega) | exact mulL (by omega) (by omega) | exact divOk (by omega) (by omega) | exact Exists.intro _ (by assumption)) ?_; (conv => whnf))))
  refine ⟨hupd_same, Nat.le_of_ble_eq_true rfl, ?_⟩
  have x : Ext h (hupd (hupd h p (.dK [])) p (.dK (mergeD [] [(.inr (Str.ofString "raw"), .tup [.int cold, optD o1]), (.inr (Str.ofString "right"), .tup [optD o1, optD o2]), (.inr (Str.ofString "burnt"), .tup [optD o2, .non])]))) := by
    rw [hupd_hupd]; exact ext_new hp
  have k := k o1 o2 _ x f1 f2
  rw [heatsO_next] at k
  (conv => whnf)
  refine w_getK hupd_same (three_val hword) ?_
  by_cases c : word = "raw"
  · rw [if_pos c] at k ⊢
    cases o1 with
    | none =>
      (conv => whnf); (repeat (first | (refine w_need rfl ?_; (conv => whnf)) | (refine w_ix (by assumption) rfl ?_; (conv => whnf)) | (refine w_ix hupd_same rfl ?_; (conv => whnf)) | (refine w_setL (by assumption) rfl ?_; (conv => whnf)) | (refine w_setL hupd_same rfl ?_; (conv => whnf)) | (refine w_eqi ?_; (conv => whnf)) | (refine w_eqs ?_; (conv => whnf)) | (refine w_t (by first | rfl | decide | assumption) ?_; (conv => whnf)) | (refine w_f (by first | rfl | decide | assumption) ?_; (conv => whnf)) | (refine And.intro (by first | rfl | decide | assumption | omega | exact Nat.le_of_ble_eq_true rfl | exact mulR (by omega) (by omega) | exact mulL (by omega) (by omega) | exact divOk (by omega) (by omega) | exact Exists.intro _ (by assumption)) ?_; (conv => whnf))))
      exact k
    | some e =>
      unfold nextF at k
      (conv => whnf); (repeat (first | (refine w_need rfl ?_; (conv => whnf)) | (refine w_ix (by assumption) rfl ?_; (conv => whnf)) | (refine w_ix hupd_same rfl ?_; (conv => whnf)) | (refine w_setL (by assumption) rfl ?_; (conv => whnf)) | (refine w_setL hupd_same rfl ?_; (conv => whnf)) | (refine w_eqi ?_; (conv => whnf)) | (refine w_eqs ?_; (conv => whnf)) | (refine w_t (by first | rfl | decide | assumption) ?_; (conv => whnf)) | (refine w_f (by first | rfl | decide | assumption) ?_; (conv => whnf)) | (refine And.intro (by first | rfl | decide | assumption | omega | exact Nat.le_of_ble_eq_true rfl | exact mulR (by omega) (by omega) | exact mulL (by omega) (by omega) | exact divOk (by omega) (by omega) | exact Exists.intro _ (by assumption)) ?_; (conv => whnf))))
      refine w_ite (fun c => ?_) (fun c => ?_)
      · dsimp only at k
        rw [if_pos c] at k
        (conv => whnf); (repeat (first | (refine w_need rfl ?_; (conv => whnf)) | (refine w_ix (by assumption) rfl ?_; (conv => whnf)) | (refine w_ix hupd_same rfl ?_; (conv => whnf)) | (refine w_setL (by assumption) rfl ?_; (conv => whnf)) | (refine w_setL hupd_same rfl ?_; (conv => whnf)) | (refine w_eqi ?_; (conv => whnf)) | (refine w_eqs ?_; (conv => whnf)) | (refine w_t (by first | rfl | decide | assumption) ?_; (conv => whnf)) | (refine w_f (by first | rfl | decide | assumption) ?_; (conv => whnf)) | (refine And.intro (by first | rfl | decide | assumption | omega | exact Nat.le_of_ble_eq_true rfl | exact mulR (by omega) (by omega) | exact mulL (by omega) (by omega) | exact divOk (by omega) (by omega) | exact Exists.intro _ (by assumption)) ?_; (conv => whnf))))
        exact k
      · dsimp only at k
        rw [if_neg c] at k
        (conv => whnf); (repeat (first | (refine w_need rfl ?_; (conv => whnf)) | (refine w_ix (by assumption) rfl ?_; (conv => whnf)) | (refine w_ix hupd_same rfl ?_; (conv => whnf)) | (refine w_setL (by assumption) rfl ?_; (conv => whnf)) | (refine w_setL hupd_same rfl ?_; (conv => whnf)) | (refine w_eqi ?_; (conv => whnf)) | (refine w_eqs ?_; (conv => whnf)) | (refine w_t (by first | rfl | decide | assumption) ?_; (conv => whnf)) | (refine w_f (by first | rfl | decide | assumption) ?_; (conv => whnf)) | (refine And.intro (by first | rfl | decide | assumption | omega | exact Nat.le_of_ble_eq_true rfl | exact mulR (by omega) (by omega) | exact mulL (by omega) (by omega) | exact divOk (by omega) (by omega) | exact Exists.intro _ (by assumption)) ?_; (conv => whnf))))
        exact k
  · rw [if_neg c] at k ⊢
    by_cases c : word = "right"
    · rw [if_pos c] at k ⊢
      cases o1 with
      | none =>
        (conv => whnf); (repeat (first | (refine w_need rfl ?_; (conv => whnf)) | (refine w_ix (by assumption) rfl ?_; (conv => whnf)) | (refine w_ix hupd_same rfl ?_; (conv => whnf)) | (refine w_setL (by assumption) rfl ?_; (conv => whnf)) | (refine w_setL hupd_same rfl ?_; (conv => whnf)) | (refine w_eqi ?_; (conv => whnf)) | (refine w_eqs ?_; (conv => whnf)) | (refine w_t (by first | rfl | decide | assumption) ?_; (conv => whnf)) | (refine w_f (by first | rfl | decide | assumption) ?_; (conv => whnf)) | (refine And.intro (by first | rfl | decide | assumption | omega | exact Nat.le_of_ble_eq_true rfl | exact mulR (by omega) (by omega) | exact mulL (by omega) (by omega) | exact divOk (by omega) (by omega) | exact Exists.intro _ (by assumption)) ?_; (conv => whnf))))
        exact k
      | some b =>
        cases o2 with
        | none =>
          (conv => whnf); (repeat (first | (refine w_need rfl ?_; (conv => whnf)) | (refine w_ix (by assumption) rfl ?_; (conv => whnf)) | (refine w_ix hupd_same rfl ?_; (conv => whnf)) | (refine w_setL (by assumption) rfl ?_; (conv => whnf)) | (refine w_setL hupd_same rfl ?_; (conv => whnf)) | (refine w_eqi ?_; (conv => whnf)) | (refine w_eqs ?_; (conv => whnf)) | (refine w_t (by first | rfl | decide | assumption) ?_; (conv => whnf)) | (refine w_f (by first | rfl | decide | assumption) ?_; (conv => whnf)) | (refine And.intro (by first | rfl | decide | assumption | omega | exact Nat.le_of_ble_eq_true rfl | exact mulR (by omega) (by omega) | exact mulL (by omega) (by omega) | exact divOk (by omega) (by omega) | exact Exists.intro _ (by assumption)) ?_; (conv => whnf))))
          exact k
        | some e =>
          unfold nextF at k
          (conv => whnf); (repeat (first | (refine w_need rfl ?_; (conv => whnf)) | (refine w_ix (by assumption) rfl ?_; (conv => whnf)) | (refine w_ix hupd_same rfl ?_; (conv => whnf)) | (refine w_setL (by assumption) rfl ?_; (conv => whnf)) | (refine w_setL hupd_same rfl ?_; (conv => whnf)) | (refine w_eqi ?_; (conv => whnf)) | (refine w_eqs ?_; (conv => whnf)) | (refine w_t (by first | rfl | decide | assumption) ?_; (conv => whnf)) | (refine w_f (by first | rfl | decide | assumption) ?_; (conv => whnf)) | (refine And.intro (by first | rfl | decide | assumption | omega | exact Nat.le_of_ble_eq_true rfl | exact mulR (by omega) (by omega) | exact mulL (by omega) (by omega) | exact divOk (by omega) (by omega) | exact Exists.intro _ (by assumption)) ?_; (conv => whnf))))
          refine w_ite (fun c => ?_) (fun c => ?_)
          · dsimp only at k
            rw [if_pos c] at k
            (conv => whnf); (repeat (first | (refine w_need rfl ?_; (conv => whnf)) | (refine w_ix (by assumption) rfl ?_; (conv => whnf)) | (refine w_ix hupd_same rfl ?_; (conv => whnf)) | (refine w_setL (by assumption) rfl ?_; (conv => whnf)) | (refine w_setL hupd_same rfl ?_; (conv => whnf)) | (refine w_eqi ?_; (conv => whnf)) | (refine w_eqs ?_; (conv => whnf)) | (refine w_t (by first | rfl | decide | assumption) ?_; (conv => whnf)) | (refine w_f (by first | rfl | decide | assumption) ?_; (conv => whnf)) | (refine And.intro (by first | rfl | decide | assumption | omega | exact Nat.le_of_ble_eq_true rfl | exact mulR (by omega) (by omega) | exact mulL (by omega) (by omega) | exact divOk (by omega) (by omega) | exact Exists.intro _ (by assumption)) ?_; (conv => whnf))))
            exact k
          · dsimp only at k
            rw [if_neg c] at k
            (conv => whnf); (repeat (first | (refine w_need rfl ?_; (conv => whnf)) | (refine w_ix (by assumption) rfl ?_; (conv => whnf)) | (refine w_ix hupd_same rfl ?_; (conv => whnf)) | (refine w_setL (by assumption) rfl ?_; (conv => whnf)) | (refine w_setL hupd_same rfl ?_; (conv => whnf)) | (refine w_eqi ?_; (conv => whnf)) | (refine w_eqs ?_; (conv => whnf)) | (refine w_t (by first | rfl | decide | assumption) ?_; (conv => whnf)) | (refine w_f (by first | rfl | decide | assumption) ?_; (conv => whnf)) | (refine And.intro (by first | rfl | decide | assumption | omega | exact Nat.le_of_ble_eq_true rfl | exact mulR (by omega) (by omega) | exact mulL (by omega) (by omega) | exact divOk (by omega) (by omega) | exact Exists.intro _ (by assumption)) ?_; (conv => whnf))))
            exact k
    · rw [if_neg c] at k ⊢
      cases o2 with
      | none =>
        (conv => whnf); (repeat (first | (refine w_need rfl ?_; (conv => whnf)) | (refine w_ix (by assumption) rfl ?_; (conv => whnf)) | (refine w_ix hupd_same rfl ?_; (conv => whnf)) | (refine w_setL (by assumption) rfl ?_; (conv => whnf)) | (refine w_setL hupd_same rfl ?_; (conv => whnf)) | (refine w_eqi ?_; (conv => whnf)) | (refine w_eqs ?_; (conv => whnf)) | (refine w_t (by first | rfl | decide | assumption) ?_; (conv => whnf)) | (refine w_f (by first | rfl | decide | assumption) ?_; (conv => whnf)) | (refine And.intro (by first | rfl | decide | assumption | omega | exact Nat.le_of_ble_eq_true rfl | exact mulR (by omega) (by omega) | exact mulL (by omega) (by omega) | exact divOk (by omega) (by omega) | exact Exists.intro _ (by assumption)) ?_; (conv => whnf))))
        exact k
      | some b =>
        (conv => whnf); (repeat (first | (refine w_need rfl ?_; (conv => whnf)) | (refine w_ix (by assumption) rfl ?_; (conv => whnf)) | (refine w_ix hupd_same rfl ?_; (conv => whnf)) | (refine w_setL (by assumption) rfl ?_; (conv => whnf)) | (refine w_setL hupd_same rfl ?_; (conv => whnf)) | (refine w_eqi ?_; (conv => whnf)) | (refine w_eqs ?_; (conv => whnf)) | (refine w_t (by first | rfl | decide | assumption) ?_; (conv => whnf)) | (refine w_f (by first | rfl | decide | assumption) ?_; (conv => whnf)) | (refine And.intro (by first | rfl | decide | assumption | omega | exact Nat.le_of_ble_eq_true rfl | exact mulR (by omega) (by omega) | exact mulL (by omega) (by omega) | exact divOk (by omega) (by omega) | exact Exists.intro _ (by assumption)) ?_; (conv => whnf))))
        exact k
end DL

set_option linter.all false
set_option maxRecDepth 100000
namespace DL
open PySem PySem.Spec PyProof.Rows L2
theorem show_int' {i : Int} (h : okI i) : i.natAbs.log2 < 1920 := by
  have := show_int h
  simpa [PyData.showable] using this
theorem leaf_int' {i : Int} (h : okI i) : (PyData.shown (.int i)).length ≤ 101 := by
  have := leaf_int h
  simpa [PyData.leavesShort] using this
theorem okI_of {i : Int} (h0 : 0 ≤ i) (h1 : i ≤ 10 ^ 40) : okI i := by
  unfold okI
  have : (10 : Nat) ^ 100 = ((10 ^ 100 : Int)).toNat := by decide +kernel
  omega
theorem first_far {cold rise m least : Int} {st : Str} (hc0 : 0 ≤ cold) (hc1 : cold < 2 ^ 50) (hr0 : 1 ≤ rise) (hr1 : rise < 2 ^ 50) (hm : 1 ≤ m) (hm2 : m < 2 ^ 20) (hl : least ≤ 10 ^ 30) {L : Int} (f : FirstIs (warmF cold rise st m) cold least (some L)) : L ≤ 10 ^ 30 := by
  have rm : rise * m ≤ 2 ^ 50 * 2 ^ 20 := Int.mul_le_mul (by omega) (by omega) (by omega) (by decide)
  obtain ⟨f1, f2, f3⟩ := f.some_ L rfl
  by_cases c : L ≤ 10 ^ 30
  · exact c
  · have a := f3 (10 ^ 30) (by omega) (by omega)
    by_cases e : st = "warm"
    · unfold warmF at a
      rw [if_pos e] at a
      have : 1 * (10 : Int) ^ 30 ≤ m * 10 ^ 30 := Int.mul_le_mul_of_nonneg_right hm (by decide)
      omega
    · rw [warm_top hr0 e (by omega)] at a
      have := warm_le_top (m := m) hr0 (by omega) e f1
      omega
/-- what heatsO tells, and its bounds -/
theorem heats_bound {word : Str} {cold : Int} {o1 o2 : Option Int} (hc0 : 0 ≤ cold) (hc1 : cold ≤ 10 ^ 30) (h1 : ∀ L, o1 = some L → cold ≤ L ∧ L ≤ 10 ^ 30) (h2 : ∀ L, o2 = some L → cold ≤ L ∧ L ≤ 10 ^ 30) :
    ∀ b e, heatsO word cold o1 o2 = some (b, e) → (cold ≤ b ∧ b ≤ 10 ^ 30) ∧ ∀ x, e = some x → cold ≤ x ∧ x ≤ 10 ^ 30 := by
  have key : ∀ bi bj : Option Int, (∀ L, bi = some L → cold ≤ L ∧ L ≤ 10 ^ 30) → (∀ L, bj = some L → cold ≤ L ∧ L ≤ 10 ^ 30) → ∀ b e, nextF bi bj = some (b, e) → (cold ≤ b ∧ b ≤ 10 ^ 30) ∧ ∀ x, e = some x → cold ≤ x ∧ x ≤ 10 ^ 30 := by
    intro bi bj k1 k2 b e q
    cases bi with
    | none => cases q
    | some c =>
      have kc := k1 c rfl
      cases bj with
      | none => cases q; exact ⟨kc, fun x z => nomatch z⟩
      | some f =>
        have kf := k2 f rfl
        unfold nextF at q
        dsimp only at q
        split at q
        · cases q
        · cases q
          exact ⟨kc, fun x z => by cases z; omega⟩
  intro b e q
  rw [heatsO_next] at q
  split at q
  · exact key _ _ (fun L z => by cases z; omega) h1 b e q
  · split at q
    · exact key _ _ h1 h2 b e q
    · exact key o2 none h2 (fun L z => nomatch z) b e q
def heatsP : Option (Int × Option Int) → PyData
  | none => .none
  | some (b, none) => .tuple [.int b, .none]
  | some (b, some e) => .tuple [.int b, .int e]
theorem pd_heats (h : DH) (r : Option (Int × Option Int)) : PD h (heatsD r) (heatsP r) := by
  cases r with
  | none => exact .non
  | some be =>
    obtain ⟨b, e⟩ := be
    cases e with
    | none => exact .tup (.cons (.int b) (.cons .non .nil))
    | some e => exact .tup (.cons (.int b) (.cons (.int e) .nil))
theorem heats_ok {r : Option (Int × Option Int)} (hb : ∀ b e, r = some (b, e) → okI b ∧ ∀ x, e = some x → okI x) : (heatsP r).showable = true ∧ (heatsP r).leavesShort 101 = true ∧ (heatsP r).bulk ≤ 100 ∧ (heatsP r).depth ≤ 2 := by
  cases r with
  | none => simp [heatsP, PyData.showable, PyData.leavesShort, PyData.bulk, PyData.depth]
  | some be =>
    obtain ⟨b, e⟩ := be
    have h1 := (hb b e rfl).1
    cases e with
    | none => simp [heatsP, PyData.showable, PyData.showableAll, PyData.leavesShort, PyData.leavesShortAll, PyData.bulk, PyData.bulkAll, PyData.depth, PyData.depthAll, show_int' h1, leaf_int' h1]
    | some x =>
      have h2 := (hb b (some x) rfl).2 x rfl
      simp [heatsP, PyData.showable, PyData.showableAll, PyData.leavesShort, PyData.leavesShortAll, PyData.bulk, PyData.bulkAll, PyData.depth, PyData.depthAll, show_int' h1, leaf_int' h1, show_int' h2, leaf_int' h2]
theorem w_repr_heats {r : Option (Int × Option Int)} {a : Addr} {h : DH} {Q : DK} (e : h a = some (.lst [heatsD r, heatsD r])) (hb : ∀ b e, r = some (b, e) → okI b ∧ ∀ x, e = some x → okI x) (k : Q (.str (PyData.shown (.list [heatsP r, heatsP r]))) h) : kRepr [.loc a] h Q := by
  have all := heats_ok hb
  obtain ⟨a1, a2, a3, a4⟩ := all
  refine w_repr (.lst e (.cons (pd_heats h r) (.cons (pd_heats h r) .nil))) (by simp [PyData.showable, PyData.showableAll, a1]) ?_ (by simp [PyData.leavesShort, PyData.leavesShortAll, a2]) ?_ k
  · simp only [PyData.depth, PyData.depthAll]; omega
  · simp only [PyData.bulk, PyData.bulkAll]; omega
theorem outF_cases (lo hi w : Int) : outF lo hi w = "raw" ∨ outF lo hi w = "right" ∨ outF lo hi w = "burnt" := by
  unfold outF
  split
  · exact .inl rfl
  · split
    · exact .inr (.inr rfl)
    · exact .inr (.inl rfl)
theorem w_repr_out {s : Str} {a : Addr} {h : DH} {Q : DK} (hs : s = "raw" ∨ s = "right" ∨ s = "burnt") (e : h a = some (.lst [.str s, .str s])) (k : Q (.str (PyData.shown (.list [.str s, .str s]))) h) : kRepr [.loc a] h Q := by
  have pd := PD.lst e (.cons (.str s) (.cons (.str s) .nil))
  refine w_repr pd ?_ ?_ ?_ ?_ k
  · rfl
  · simp [PyData.depth, PyData.depthAll]
  · rcases hs with rfl | rfl | rfl <;> decide +kernel
  · rcases hs with rfl | rfl | rfl <;> decide +kernel
end DL

set_option linter.all false
set_option maxRecDepth 100000
namespace DL
open PySem PySem.Spec PyProof.Rows L2
set_option maxHeartbeats 4000000
theorem law_holds (ns : List Int) (hl : ns.length ≤ 63) : runD 13 b_law [.fls (ns.map D.int)] (fun _ => none) (fun d _ => d = .bl true) := by
  rw [← m_law_eq]
  apply m_law_ap
  (conv => whnf); (repeat (first | (refine w_need rfl ?_; (conv => whnf)) | (refine w_ix (by assumption) rfl ?_; (conv => whnf)) | (refine w_ix hupd_same rfl ?_; (conv => whnf)) | (refine w_setL (by assumption) rfl ?_; (conv => whnf)) | (refine w_setL hupd_same rfl ?_; (conv => whnf)) | (refine w_eqi ?_; (conv => whnf)) | (refine w_eqs ?_; (conv => whnf)) | (refine w_t (by first | rfl | decide | assumption) ?_; (conv => whnf)) | (refine w_f (by first | rfl | decide | assumption) ?_; (conv => whnf)) | (refine And.intro (by first | rfl | decide | assumption | omega | exact Nat.le_of_ble_eq_true rfl | exact mulR (by omega) (by omega) | exact mulL (by omega) (by omega) | exact divOk (by omega) (by omega) | exact Exists.intro _ (by assumption)) ?_; (conv => whnf))))
  refine sp_bag hl fun b h1 g s x hb hb1 => ?_
  have B0 : Bag (hupd h1 b (.lst [.int g, .int s, .int 0])) b := ⟨g, s, 0, hupd_same⟩
  generalize hupd h1 b (.lst [.int g, .int s, .int 0]) = h2 at B0
  (conv => whnf)
  refine w_for ?_
  (conv => whnf); (repeat (first | (refine w_need rfl ?_; (conv => whnf)) | (refine w_ix (by assumption) rfl ?_; (conv => whnf)) | (refine w_ix hupd_same rfl ?_; (conv => whnf)) | (refine w_setL (by assumption) rfl ?_; (conv => whnf)) | (refine w_setL hupd_same rfl ?_; (conv => whnf)) | (refine w_eqi ?_; (conv => whnf)) | (refine w_eqs ?_; (conv => whnf)) | (refine w_t (by first | rfl | decide | assumption) ?_; (conv => whnf)) | (refine w_f (by first | rfl | decide | assumption) ?_; (conv => whnf)) | (refine And.intro (by first | rfl | decide | assumption | omega | exact Nat.le_of_ble_eq_true rfl | exact mulR (by omega) (by omega) | exact mulL (by omega) (by omega) | exact divOk (by omega) (by omega) | exact Exists.intro _ (by assumption)) ?_; (conv => whnf))))
  refine w_range (I := fun _ τ h => Bag h b ∧ ∃ a2 a3 a4 a5 a6 a7 a8 a9 a10 a11 a12, τ = [some (.fls (ns.map D.int)), some (.loc b), a2, a3, a4, a5, a6, a7, a8, a9, a10, a11, a12]) ⟨B0, _, _, _, _, _, _, _, _, _, _, _, rfl⟩ ?_ ?_
  · rintro i1 τ h nx1 hi1 ⟨B, a2, a3, a4, a5, a6, a7, a8, a9, a10, a11, a12, rfl⟩ hnx1
    (conv => whnf); (repeat (first | (refine w_need rfl ?_; (conv => whnf)) | (refine w_ix (by assumption) rfl ?_; (conv => whnf)) | (refine w_ix hupd_same rfl ?_; (conv => whnf)) | (refine w_setL (by assumption) rfl ?_; (conv => whnf)) | (refine w_setL hupd_same rfl ?_; (conv => whnf)) | (refine w_eqi ?_; (conv => whnf)) | (refine w_eqs ?_; (conv => whnf)) | (refine w_t (by first | rfl | decide | assumption) ?_; (conv => whnf)) | (refine w_f (by first | rfl | decide | assumption) ?_; (conv => whnf)) | (refine And.intro (by first | rfl | decide | assumption | omega | exact Nat.le_of_ble_eq_true rfl | exact mulR (by omega) (by omega) | exact mulL (by omega) (by omega) | exact divOk (by omega) (by omega) | exact Exists.intro _ (by assumption)) ?_; (conv => whnf))))
    intro p1 hp1; generalize hh_h1 : hupd _ p1 _ = h1; obtain ⟨x1, e1⟩ := newAt hh_h1 hp1
    (conv => whnf); (repeat (first | (refine w_need rfl ?_; (conv => whnf)) | (refine w_ix (by assumption) rfl ?_; (conv => whnf)) | (refine w_ix hupd_same rfl ?_; (conv => whnf)) | (refine w_setL (by assumption) rfl ?_; (conv => whnf)) | (refine w_setL hupd_same rfl ?_; (conv => whnf)) | (refine w_eqi ?_; (conv => whnf)) | (refine w_eqs ?_; (conv => whnf)) | (refine w_t (by first | rfl | decide | assumption) ?_; (conv => whnf)) | (refine w_f (by first | rfl | decide | assumption) ?_; (conv => whnf)) | (refine And.intro (by first | rfl | decide | assumption | omega | exact Nat.le_of_ble_eq_true rfl | exact mulR (by omega) (by omega) | exact mulL (by omega) (by omega) | exact divOk (by omega) (by omega) | exact Exists.intro _ (by assumption)) ?_; (conv => whnf))))
    refine sp_pick (B.ext x1) e1 (B.ne hp1) (by decide) (by decide) fun y h2 hy f2 => ?_
    obtain ⟨share, rfl, hs1, hs2⟩ : ∃ share : Int, y = .int share ∧ 1 ≤ share ∧ share ≤ 10 ^ 7 := by
      simp only [List.mem_cons, List.not_mem_nil, or_false] at hy
      rcases hy with rfl | rfl | rfl | rfl <;> exact ⟨_, rfl, by decide, by decide⟩
    have B := f2.bag
    (conv => whnf); (repeat (first | (refine w_need rfl ?_; (conv => whnf)) | (refine w_ix (by assumption) rfl ?_; (conv => whnf)) | (refine w_ix hupd_same rfl ?_; (conv => whnf)) | (refine w_setL (by assumption) rfl ?_; (conv => whnf)) | (refine w_setL hupd_same rfl ?_; (conv => whnf)) | (refine w_eqi ?_; (conv => whnf)) | (refine w_eqs ?_; (conv => whnf)) | (refine w_t (by first | rfl | decide | assumption) ?_; (conv => whnf)) | (refine w_f (by first | rfl | decide | assumption) ?_; (conv => whnf)) | (refine And.intro (by first | rfl | decide | assumption | omega | exact Nat.le_of_ble_eq_true rfl | exact mulR (by omega) (by omega) | exact mulL (by omega) (by omega) | exact divOk (by omega) (by omega) | exact Exists.intro _ (by assumption)) ?_; (conv => whnf))))
    refine sp_dials B fun n h3 f3 n1 n2 => ?_
    have B := f3.bag
    (conv => whnf); (repeat (first | (refine w_need rfl ?_; (conv => whnf)) | (refine w_ix (by assumption) rfl ?_; (conv => whnf)) | (refine w_ix hupd_same rfl ?_; (conv => whnf)) | (refine w_setL (by assumption) rfl ?_; (conv => whnf)) | (refine w_setL hupd_same rfl ?_; (conv => whnf)) | (refine w_eqi ?_; (conv => whnf)) | (refine w_eqs ?_; (conv => whnf)) | (refine w_t (by first | rfl | decide | assumption) ?_; (conv => whnf)) | (refine w_f (by first | rfl | decide | assumption) ?_; (conv => whnf)) | (refine And.intro (by first | rfl | decide | assumption | omega | exact Nat.le_of_ble_eq_true rfl | exact mulR (by omega) (by omega) | exact mulL (by omega) (by omega) | exact divOk (by omega) (by omega) | exact Exists.intro _ (by assumption)) ?_; (conv => whnf))))
    refine sp_kitchen B (by omega) (by omega) fun l1 l2 cold rise ovens ts ds h4 f4 k1 k2 k3 k4 k5 k6 k7 k8 k9 k10 k11 k12 k13 => ?_
    have B := f4.bag
    (conv => whnf); (repeat (first | (refine w_need rfl ?_; (conv => whnf)) | (refine w_ix (by assumption) rfl ?_; (conv => whnf)) | (refine w_ix hupd_same rfl ?_; (conv => whnf)) | (refine w_setL (by assumption) rfl ?_; (conv => whnf)) | (refine w_setL hupd_same rfl ?_; (conv => whnf)) | (refine w_eqi ?_; (conv => whnf)) | (refine w_eqs ?_; (conv => whnf)) | (refine w_t (by first | rfl | decide | assumption) ?_; (conv => whnf)) | (refine w_f (by first | rfl | decide | assumption) ?_; (conv => whnf)) | (refine And.intro (by first | rfl | decide | assumption | omega | exact Nat.le_of_ble_eq_true rfl | exact mulR (by omega) (by omega) | exact mulL (by omega) (by omega) | exact divOk (by omega) (by omega) | exact Exists.intro _ (by assumption)) ?_; (conv => whnf))))
    refine ⟨by simp only [List.length_map, List.length_cons, List.length_nil]; exact Nat.le_of_lt (small_size (by omega)), ?_⟩
    (conv => whnf); (repeat (first | (refine w_need rfl ?_; (conv => whnf)) | (refine w_ix (by assumption) rfl ?_; (conv => whnf)) | (refine w_ix hupd_same rfl ?_; (conv => whnf)) | (refine w_setL (by assumption) rfl ?_; (conv => whnf)) | (refine w_setL hupd_same rfl ?_; (conv => whnf)) | (refine w_eqi ?_; (conv => whnf)) | (refine w_eqs ?_; (conv => whnf)) | (refine w_t (by first | rfl | decide | assumption) ?_; (conv => whnf)) | (refine w_f (by first | rfl | decide | assumption) ?_; (conv => whnf)) | (refine And.intro (by first | rfl | decide | assumption | omega | exact Nat.le_of_ble_eq_true rfl | exact mulR (by omega) (by omega) | exact mulL (by omega) (by omega) | exact divOk (by omega) (by omega) | exact Exists.intro _ (by assumption)) ?_; (conv => whnf))))
    generalize hk : D.tup (cutD _ none (some 5) ++ [D.tup (_ ++ _)]) = kk
    have ek : kk = kitD n l1 l2 cold rise ovens ts (ds ++ [[10 ^ 24, 10 ^ 24], [0, 0], [0, 10 ^ 24]]) := by
      rw [← hk]
      show _ = D.tup [.int n, .tup [.int l1, .int l2], .tup [.int cold, .int rise], .int ovens, .tup (ts.map tupI), .tup ((ds ++ [[10 ^ 24, 10 ^ 24], [0, 0], [0, 10 ^ 24]]).map tupI)]
      rw [List.map_append]
      rfl
    subst ek
    clear hk
    have dish : ∀ d : Int, 0 ≤ d → d < (ds ++ [[(10 : Int) ^ 24, 10 ^ 24], [0, 0], [0, 10 ^ 24]]).length → ∃ lo hi, (ds ++ [[(10 : Int) ^ 24, 10 ^ 24], [0, 0], [0, 10 ^ 24]])[d.toNat]? = some [lo, hi] ∧ lo ≤ hi ∧ hi < 10 ^ 30 := by
      intro d d0 d1
      have hlt : d.toNat < (ds ++ [[(10 : Int) ^ 24, 10 ^ 24], [0, 0], [0, 10 ^ 24]]).length := by omega
      have mem := List.getElem_mem hlt
      rw [List.getElem?_eq_getElem hlt]
      generalize (ds ++ [[(10 : Int) ^ 24, 10 ^ 24], [0, 0], [0, 10 ^ 24]])[d.toNat] = e at mem
      rcases List.mem_append.mp mem with q | q
      · obtain ⟨lo, hi, rfl, q1, q2, q3⟩ := k13 e q
        exact ⟨lo, hi, rfl, q2, by omega⟩
      · simp only [List.mem_cons, List.not_mem_nil, or_false] at q
        rcases q with rfl | rfl | rfl
        · exact ⟨_, _, rfl, by decide, by decide⟩
        · exact ⟨_, _, rfl, by decide, by decide⟩
        · exact ⟨_, _, rfl, by decide, by decide⟩
    have dl : 1 ≤ (ds ++ [[(10 : Int) ^ 24, 10 ^ 24], [0, 0], [0, 10 ^ 24]]).length ∧ (ds ++ [[(10 : Int) ^ 24, 10 ^ 24], [0, 0], [0, 10 ^ 24]]).length ≤ 1000 := by
      rw [List.length_append]; simp only [List.length_cons, List.length_nil]; omega
    generalize ds ++ [[(10 : Int) ^ 24, 10 ^ 24], [0, 0], [0, 10 ^ 24]] = ds2 at dish dl
    generalize hd5 : D.tup (_ ++ _) = dd5
    clear hd5
    refine w_for ?_
    (conv => whnf); (repeat (first | (refine w_need rfl ?_; (conv => whnf)) | (refine w_ix (by assumption) rfl ?_; (conv => whnf)) | (refine w_ix hupd_same rfl ?_; (conv => whnf)) | (refine w_setL (by assumption) rfl ?_; (conv => whnf)) | (refine w_setL hupd_same rfl ?_; (conv => whnf)) | (refine w_eqi ?_; (conv => whnf)) | (refine w_eqs ?_; (conv => whnf)) | (refine w_t (by first | rfl | decide | assumption) ?_; (conv => whnf)) | (refine w_f (by first | rfl | decide | assumption) ?_; (conv => whnf)) | (refine And.intro (by first | rfl | decide | assumption | omega | exact Nat.le_of_ble_eq_true rfl | exact mulR (by omega) (by omega) | exact mulL (by omega) (by omega) | exact divOk (by omega) (by omega) | exact Exists.intro _ (by assumption)) ?_; (conv => whnf))))
    refine w_range (I := fun _ τ h => Bag h b ∧ ∃ a6 a7 a8 a9 a10 a11 a12, τ = [some (.fls (ns.map D.int)), some (.loc b), some (.int (0 + i1)), some (.int share), some (kitD n l1 l2 cold rise ovens ts ds2), some dd5, a6, a7, a8, a9, a10, a11, a12]) ⟨B, _, _, _, _, _, _, _, rfl⟩ ?_ ?_
    · clear B
      rintro i2 τ h nx2 hi2 ⟨B, a6, a7, a8, a9, a10, a11, a12, rfl⟩ hnx2
      (conv => whnf); (repeat (first | (refine w_need rfl ?_; (conv => whnf)) | (refine w_ix (by assumption) rfl ?_; (conv => whnf)) | (refine w_ix hupd_same rfl ?_; (conv => whnf)) | (refine w_setL (by assumption) rfl ?_; (conv => whnf)) | (refine w_setL hupd_same rfl ?_; (conv => whnf)) | (refine w_eqi ?_; (conv => whnf)) | (refine w_eqs ?_; (conv => whnf)) | (refine w_t (by first | rfl | decide | assumption) ?_; (conv => whnf)) | (refine w_f (by first | rfl | decide | assumption) ?_; (conv => whnf)) | (refine And.intro (by first | rfl | decide | assumption | omega | exact Nat.le_of_ble_eq_true rfl | exact mulR (by omega) (by omega) | exact mulL (by omega) (by omega) | exact divOk (by omega) (by omega) | exact Exists.intro _ (by assumption)) ?_; (conv => whnf))))
      intro p5 hp5; generalize hh_h5 : hupd _ p5 _ = h5; obtain ⟨x5, e5⟩ := newAt hh_h5 hp5
      (conv => whnf); (repeat (first | (refine w_need rfl ?_; (conv => whnf)) | (refine w_ix (by assumption) rfl ?_; (conv => whnf)) | (refine w_ix hupd_same rfl ?_; (conv => whnf)) | (refine w_setL (by assumption) rfl ?_; (conv => whnf)) | (refine w_setL hupd_same rfl ?_; (conv => whnf)) | (refine w_eqi ?_; (conv => whnf)) | (refine w_eqs ?_; (conv => whnf)) | (refine w_t (by first | rfl | decide | assumption) ?_; (conv => whnf)) | (refine w_f (by first | rfl | decide | assumption) ?_; (conv => whnf)) | (refine And.intro (by first | rfl | decide | assumption | omega | exact Nat.le_of_ble_eq_true rfl | exact mulR (by omega) (by omega) | exact mulL (by omega) (by omega) | exact divOk (by omega) (by omega) | exact Exists.intro _ (by assumption)) ?_; (conv => whnf))))
      refine sp_pick (B.ext x5) e5 (B.ne hp5) (by decide) (by decide) fun y h6 hy f6 => ?_
      obtain ⟨most, rfl, hm1, hm2⟩ : ∃ most : Int, y = .int most ∧ 1 ≤ most ∧ most ≤ 10 ^ 6 := by
        simp only [List.mem_cons, List.not_mem_nil, or_false] at hy
        rcases hy with rfl | rfl | rfl | rfl <;> exact ⟨_, rfl, by decide, by decide⟩
      have B := f6.bag
      (conv => whnf); (repeat (first | (refine w_need rfl ?_; (conv => whnf)) | (refine w_ix (by assumption) rfl ?_; (conv => whnf)) | (refine w_ix hupd_same rfl ?_; (conv => whnf)) | (refine w_setL (by assumption) rfl ?_; (conv => whnf)) | (refine w_setL hupd_same rfl ?_; (conv => whnf)) | (refine w_eqi ?_; (conv => whnf)) | (refine w_eqs ?_; (conv => whnf)) | (refine w_t (by first | rfl | decide | assumption) ?_; (conv => whnf)) | (refine w_f (by first | rfl | decide | assumption) ?_; (conv => whnf)) | (refine And.intro (by first | rfl | decide | assumption | omega | exact Nat.le_of_ble_eq_true rfl | exact mulR (by omega) (by omega) | exact mulL (by omega) (by omega) | exact divOk (by omega) (by omega) | exact Exists.intro _ (by assumption)) ?_; (conv => whnf))))
      refine sp_baking B (by omega) (by omega) k8 k9 dl.1 dl.2 (by omega) (by omega) fun o i m d st h7 f7 o1 o2 j1 j2 hst m1 m2 d1 d2 => ?_
      have B := f7.bag
      obtain ⟨lo, hi, ed, lh, hb30⟩ := dish d d1 d2
      (conv => whnf); (repeat (first | (refine w_need rfl ?_; (conv => whnf)) | (refine w_ix (by assumption) rfl ?_; (conv => whnf)) | (refine w_ix hupd_same rfl ?_; (conv => whnf)) | (refine w_setL (by assumption) rfl ?_; (conv => whnf)) | (refine w_setL hupd_same rfl ?_; (conv => whnf)) | (refine w_eqi ?_; (conv => whnf)) | (refine w_eqs ?_; (conv => whnf)) | (refine w_t (by first | rfl | decide | assumption) ?_; (conv => whnf)) | (refine w_f (by first | rfl | decide | assumption) ?_; (conv => whnf)) | (refine And.intro (by first | rfl | decide | assumption | omega | exact Nat.le_of_ble_eq_true rfl | exact mulR (by omega) (by omega) | exact mulL (by omega) (by omega) | exact divOk (by omega) (by omega) | exact Exists.intro _ (by assumption)) ?_; (conv => whnf))))
      refine sp_draw B (by omega) (by omega) fun u h8 f8 u1 u2 => ?_
      have B := f8.bag
      have su1 : 0 ≤ u * share := Int.mul_nonneg u1 (by omega)
      (conv => whnf); (repeat (first | (refine w_need rfl ?_; (conv => whnf)) | (refine w_ix (by assumption) rfl ?_; (conv => whnf)) | (refine w_ix hupd_same rfl ?_; (conv => whnf)) | (refine w_setL (by assumption) rfl ?_; (conv => whnf)) | (refine w_setL hupd_same rfl ?_; (conv => whnf)) | (refine w_eqi ?_; (conv => whnf)) | (refine w_eqs ?_; (conv => whnf)) | (refine w_t (by first | rfl | decide | assumption) ?_; (conv => whnf)) | (refine w_f (by first | rfl | decide | assumption) ?_; (conv => whnf)) | (refine And.intro (by first | rfl | decide | assumption | omega | exact Nat.le_of_ble_eq_true rfl | exact mulR (by omega) (by omega) | exact mulL (by omega) (by omega) | exact divOk (by omega) (by omega) | exact Exists.intro _ (by assumption)) ?_; (conv => whnf))))
      intro p8 hp8; generalize hh_h9 : hupd _ p8 _ = h9; obtain ⟨x9, e9⟩ := newAt hh_h9 hp8
      have B := B.ext x9
      obtain ⟨fo1, F1⟩ := first_ex (f := warmF cold rise st m) (cold := cold) (least := lo) (fun ha hab => warm_mono k6 ha (by omega) hab)
      obtain ⟨fo2, F2⟩ := first_ex (f := warmF cold rise st m) (cold := cold) (least := hi + 1) (fun ha hab => warm_mono k6 ha (by omega) hab)
      have bnd := fun word => heats_bound (word := word) (o1 := fo1) (o2 := fo2) k4 (show cold ≤ 10 ^ 30 by omega) (fun L z => ⟨(F1.some_ L z).1, first_far k4 (by omega) k6 (by omega) m1 (by omega) (show lo ≤ 10 ^ 30 by omega) (z ▸ F1)⟩) (fun L z => ⟨(F2.some_ L z).1, first_far k4 (by omega) k6 (by omega) m1 (by omega) (show hi + 1 ≤ 10 ^ 30 by omega) (z ▸ F2)⟩)
      (conv => whnf)
      refine w_for ?_
      (conv => whnf); (repeat (first | (refine w_need rfl ?_; (conv => whnf)) | (refine w_ix (by assumption) rfl ?_; (conv => whnf)) | (refine w_ix hupd_same rfl ?_; (conv => whnf)) | (refine w_setL (by assumption) rfl ?_; (conv => whnf)) | (refine w_setL hupd_same rfl ?_; (conv => whnf)) | (refine w_eqi ?_; (conv => whnf)) | (refine w_eqs ?_; (conv => whnf)) | (refine w_t (by first | rfl | decide | assumption) ?_; (conv => whnf)) | (refine w_f (by first | rfl | decide | assumption) ?_; (conv => whnf)) | (refine And.intro (by first | rfl | decide | assumption | omega | exact Nat.le_of_ble_eq_true rfl | exact mulR (by omega) (by omega) | exact mulL (by omega) (by omega) | exact divOk (by omega) (by omega) | exact Exists.intro _ (by assumption)) ?_; (conv => whnf))))
      intro p10 hp10; generalize hh_h10 : hupd _ p10 _ = h10; obtain ⟨x10, e10⟩ := newAt hh_h10 hp10
      have B := B.ext x10
      (conv => whnf)
      rw [e10]
      (conv => whnf)
      refine w_loop (I := fun j τ h' => Ext h10 h' ∧ ∃ q hs a9 a10 a11 a12, h' q = some (.lst (hs.map D.int)) ∧ (∀ x ∈ hs, cold ≤ x) ∧ hs.length ≤ 3 + 6 * j ∧ τ = [some (.fls (ns.map D.int)), some (.loc b), some (.int (0 + i1)), some (.int share), some (kitD n l1 l2 cold rise ovens ts ds2), some dd5, some (.int (0 + i2)), some (bakD o i st m d), some (.loc q), a9, a10, a11, a12]) ⟨Ext.refl _, p8, [cold, cold + u * share, 10 ^ Int.toNat 30], _, _, _, _, x10 _ _ e9, ?_, Nat.le_of_ble_eq_true rfl, rfl⟩ (fun _ _ h _ q => q.1 _ _ e10) ?_ ?_
      · intro y hy
        simp only [List.mem_cons, List.not_mem_nil, or_false] at hy
        rcases hy with rfl | rfl | rfl
        · exact Int.le_refl _
        · omega
        · have : (10 : Int) ^ Int.toNat 30 = 1000000000000000000000000000000 := by decide
          omega
      · rintro j dd τ h' nx3 ej ⟨xj, q, hs, a9, a10, a11, a12, eq, hhs, lhs, rfl⟩ hnx3
        have hj : j < 3 := (List.getElem?_eq_some_iff.mp ej).1
        obtain ⟨word, rfl, hword⟩ : ∃ word : Str, dd = .str word ∧ (word = "raw" ∨ word = "right" ∨ word = "burnt") := by
          have := List.mem_of_getElem? ej
          simp only [List.mem_cons, List.not_mem_nil, or_false] at this
          rcases this with rfl | rfl | rfl
          · exact ⟨_, rfl, .inl rfl⟩
          · exact ⟨_, rfl, .inr (.inl rfl)⟩
          · exact ⟨_, rfl, .inr (.inr rfl)⟩
        have hr := bnd word
        (conv => whnf); (repeat (first | (refine w_need rfl ?_; (conv => whnf)) | (refine w_ix (by assumption) rfl ?_; (conv => whnf)) | (refine w_ix hupd_same rfl ?_; (conv => whnf)) | (refine w_setL (by assumption) rfl ?_; (conv => whnf)) | (refine w_setL hupd_same rfl ?_; (conv => whnf)) | (refine w_eqi ?_; (conv => whnf)) | (refine w_eqs ?_; (conv => whnf)) | (refine w_t (by first | rfl | decide | assumption) ?_; (conv => whnf)) | (refine w_f (by first | rfl | decide | assumption) ?_; (conv => whnf)) | (refine And.intro (by first | rfl | decide | assumption | omega | exact Nat.le_of_ble_eq_true rfl | exact mulR (by omega) (by omega) | exact mulL (by omega) (by omega) | exact divOk (by omega) (by omega) | exact Exists.intro _ (by assumption)) ?_; (conv => whnf))))
        refine sp_law_heats k4 (by omega) k6 (by omega) m1 (by omega) d1 ed hword fun q1 q2 hA xA g1 g2 => ?_
        rw [g1.uniq F1, g2.uniq F2]
        (conv => whnf); (repeat (first | (refine w_need rfl ?_; (conv => whnf)) | (refine w_ix (by assumption) rfl ?_; (conv => whnf)) | (refine w_ix hupd_same rfl ?_; (conv => whnf)) | (refine w_setL (by assumption) rfl ?_; (conv => whnf)) | (refine w_setL hupd_same rfl ?_; (conv => whnf)) | (refine w_eqi ?_; (conv => whnf)) | (refine w_eqs ?_; (conv => whnf)) | (refine w_t (by first | rfl | decide | assumption) ?_; (conv => whnf)) | (refine w_f (by first | rfl | decide | assumption) ?_; (conv => whnf)) | (refine And.intro (by first | rfl | decide | assumption | omega | exact Nat.le_of_ble_eq_true rfl | exact mulR (by omega) (by omega) | exact mulL (by omega) (by omega) | exact divOk (by omega) (by omega) | exact Exists.intro _ (by assumption)) ?_; (conv => whnf))))
        refine sp_heats_for k4 (by omega) k6 (by omega) m1 (by omega) d1 ed fun q1 q2 g1 g2 => ?_
        rw [g1.uniq F1, g2.uniq F2]
        (conv => whnf); (repeat (first | (refine w_need rfl ?_; (conv => whnf)) | (refine w_ix (by assumption) rfl ?_; (conv => whnf)) | (refine w_ix hupd_same rfl ?_; (conv => whnf)) | (refine w_setL (by assumption) rfl ?_; (conv => whnf)) | (refine w_setL hupd_same rfl ?_; (conv => whnf)) | (refine w_eqi ?_; (conv => whnf)) | (refine w_eqs ?_; (conv => whnf)) | (refine w_t (by first | rfl | decide | assumption) ?_; (conv => whnf)) | (refine w_f (by first | rfl | decide | assumption) ?_; (conv => whnf)) | (refine And.intro (by first | rfl | decide | assumption | omega | exact Nat.le_of_ble_eq_true rfl | exact mulR (by omega) (by omega) | exact mulL (by omega) (by omega) | exact divOk (by omega) (by omega) | exact Exists.intro _ (by assumption)) ?_; (conv => whnf))))
        refine sp_heats_for k4 (by omega) k6 (by omega) m1 (by omega) d1 ed fun q1 q2 g1 g2 => ?_
        rw [g1.uniq F1, g2.uniq F2]
        clear g1 g2
        generalize heatsO word cold fo1 fo2 = r at hr
        have hok : ∀ b e, r = some (b, e) → okI b ∧ ∀ x, e = some x → okI x := fun b e z => ⟨okI_of (by have := (hr b e z).1; omega) (by have := (hr b e z).1; omega), fun x y => okI_of (by have := (hr b e z).2 x y; omega) (by have := (hr b e z).2 x y; omega)⟩
        (conv => whnf); (repeat (first | (refine w_need rfl ?_; (conv => whnf)) | (refine w_ix (by assumption) rfl ?_; (conv => whnf)) | (refine w_ix hupd_same rfl ?_; (conv => whnf)) | (refine w_setL (by assumption) rfl ?_; (conv => whnf)) | (refine w_setL hupd_same rfl ?_; (conv => whnf)) | (refine w_eqi ?_; (conv => whnf)) | (refine w_eqs ?_; (conv => whnf)) | (refine w_t (by first | rfl | decide | assumption) ?_; (conv => whnf)) | (refine w_f (by first | rfl | decide | assumption) ?_; (conv => whnf)) | (refine And.intro (by first | rfl | decide | assumption | omega | exact Nat.le_of_ble_eq_true rfl | exact mulR (by omega) (by omega) | exact mulL (by omega) (by omega) | exact divOk (by omega) (by omega) | exact Exists.intro _ (by assumption)) ?_; (conv => whnf))))
        intro p11 hp11; generalize hh_h11 : hupd _ p11 _ = h11; obtain ⟨x11, e11⟩ := newAt hh_h11 hp11
        (conv => whnf)
        refine w_repr_heats e11 hok ?_
        (conv => whnf); (repeat (first | (refine w_need rfl ?_; (conv => whnf)) | (refine w_ix (by assumption) rfl ?_; (conv => whnf)) | (refine w_ix hupd_same rfl ?_; (conv => whnf)) | (refine w_setL (by assumption) rfl ?_; (conv => whnf)) | (refine w_setL hupd_same rfl ?_; (conv => whnf)) | (refine w_eqi ?_; (conv => whnf)) | (refine w_eqs ?_; (conv => whnf)) | (refine w_t (by first | rfl | decide | assumption) ?_; (conv => whnf)) | (refine w_f (by first | rfl | decide | assumption) ?_; (conv => whnf)) | (refine And.intro (by first | rfl | decide | assumption | omega | exact Nat.le_of_ble_eq_true rfl | exact mulR (by omega) (by omega) | exact mulL (by omega) (by omega) | exact divOk (by omega) (by omega) | exact Exists.intro _ (by assumption)) ?_; (conv => whnf))))
        intro p12 hp12; generalize hh_h12 : hupd _ p12 _ = h12; obtain ⟨x12, e12⟩ := newAt hh_h12 hp12
        (conv => whnf)
        refine w_repr_heats e12 hok ?_
        (conv => whnf); (repeat (first | (refine w_need rfl ?_; (conv => whnf)) | (refine w_ix (by assumption) rfl ?_; (conv => whnf)) | (refine w_ix hupd_same rfl ?_; (conv => whnf)) | (refine w_setL (by assumption) rfl ?_; (conv => whnf)) | (refine w_setL hupd_same rfl ?_; (conv => whnf)) | (refine w_eqi ?_; (conv => whnf)) | (refine w_eqs ?_; (conv => whnf)) | (refine w_t (by first | rfl | decide | assumption) ?_; (conv => whnf)) | (refine w_f (by first | rfl | decide | assumption) ?_; (conv => whnf)) | (refine And.intro (by first | rfl | decide | assumption | omega | exact Nat.le_of_ble_eq_true rfl | exact mulR (by omega) (by omega) | exact mulL (by omega) (by omega) | exact divOk (by omega) (by omega) | exact Exists.intro _ (by assumption)) ?_; (conv => whnf))))
        refine w_f (by simp) ?_
        (conv => whnf)
        have xq := xA.trans (x11.trans x12)
        have xc := xj.trans xq
        refine w_for ?_
        cases r with
        | none =>
          (conv => whnf); (repeat (first | (refine w_need rfl ?_; (conv => whnf)) | (refine w_ix (by assumption) rfl ?_; (conv => whnf)) | (refine w_ix hupd_same rfl ?_; (conv => whnf)) | (refine w_setL (by assumption) rfl ?_; (conv => whnf)) | (refine w_setL hupd_same rfl ?_; (conv => whnf)) | (refine w_eqi ?_; (conv => whnf)) | (refine w_eqs ?_; (conv => whnf)) | (refine w_t (by first | rfl | decide | assumption) ?_; (conv => whnf)) | (refine w_f (by first | rfl | decide | assumption) ?_; (conv => whnf)) | (refine And.intro (by first | rfl | decide | assumption | omega | exact Nat.le_of_ble_eq_true rfl | exact mulR (by omega) (by omega) | exact mulL (by omega) (by omega) | exact divOk (by omega) (by omega) | exact Exists.intro _ (by assumption)) ?_; (conv => whnf))))
          refine w_loop (I := fun j2 τ h' => Ext h10 h' ∧ ∃ q hs a11 a12, h' q = some (.lst (hs.map D.int)) ∧ (∀ x ∈ hs, cold ≤ x) ∧ hs.length ≤ 3 + 6 * j + 3 * j2 ∧ τ = [some (.fls (ns.map D.int)), some (.loc b), some (.int (0 + i1)), some (.int share), some (kitD n l1 l2 cold rise ovens ts ds2), some dd5, some (.int (0 + i2)), some (bakD o i st m d), some (.loc q), some (.str word), a10, a11, a12]) ⟨xc, q, hs, _, _, xq _ _ eq, hhs, by omega, rfl⟩ (fun _ _ _ _ _ => trivial) ?_ ?_
          · rintro j2 dd2 τ h' nx4 e2 ⟨x4, q, hs, a11, a12, eq, hhs, lhs, rfl⟩ hnx4
            have hj2 := (List.getElem?_eq_some_iff.mp e2).1
            simp only [List.length_cons, List.length_nil] at hj2
            have hd2 : dd2 = .non ∨ ∃ x, dd2 = .int x ∧ cold ≤ x := by
              have := List.mem_of_getElem? e2
              exact absurd this List.not_mem_nil
            rcases hd2 with rfl | ⟨x, rfl, cx⟩
            · (conv => whnf); (repeat (first | (refine w_need rfl ?_; (conv => whnf)) | (refine w_ix (by assumption) rfl ?_; (conv => whnf)) | (refine w_ix hupd_same rfl ?_; (conv => whnf)) | (refine w_setL (by assumption) rfl ?_; (conv => whnf)) | (refine w_setL hupd_same rfl ?_; (conv => whnf)) | (refine w_eqi ?_; (conv => whnf)) | (refine w_eqs ?_; (conv => whnf)) | (refine w_t (by first | rfl | decide | assumption) ?_; (conv => whnf)) | (refine w_f (by first | rfl | decide | assumption) ?_; (conv => whnf)) | (refine And.intro (by first | rfl | decide | assumption | omega | exact Nat.le_of_ble_eq_true rfl | exact mulR (by omega) (by omega) | exact mulL (by omega) (by omega) | exact divOk (by omega) (by omega) | exact Exists.intro _ (by assumption)) ?_; (conv => whnf))))
              exact hnx4 _ _ ⟨x4, q, hs, _, _, eq, hhs, by omega, rfl⟩
            · (conv => whnf); (repeat (first | (refine w_need rfl ?_; (conv => whnf)) | (refine w_ix (by assumption) rfl ?_; (conv => whnf)) | (refine w_ix hupd_same rfl ?_; (conv => whnf)) | (refine w_setL (by assumption) rfl ?_; (conv => whnf)) | (refine w_setL hupd_same rfl ?_; (conv => whnf)) | (refine w_eqi ?_; (conv => whnf)) | (refine w_eqs ?_; (conv => whnf)) | (refine w_t (by first | rfl | decide | assumption) ?_; (conv => whnf)) | (refine w_f (by first | rfl | decide | assumption) ?_; (conv => whnf)) | (refine And.intro (by first | rfl | decide | assumption | omega | exact Nat.le_of_ble_eq_true rfl | exact mulR (by omega) (by omega) | exact mulL (by omega) (by omega) | exact divOk (by omega) (by omega) | exact Exists.intro _ (by assumption)) ?_; (conv => whnf))))
              intro pn hpn; generalize hh_hn : hupd _ pn _ = hn; obtain ⟨xn, en⟩ := newAt hh_hn hpn
              (conv => whnf)
              refine ⟨hs.map D.int, _, xn _ _ eq, en, by rw [List.length_map]; exact Nat.le_of_lt (small_size (by simp only [List.length_cons, List.length_nil]; omega)), ?_⟩
              intro pm hpm; generalize hh_hm : hupd _ pm _ = hm; obtain ⟨xm, em⟩ := newAt hh_hm hpm
              refine hnx4 _ _ ⟨x4.trans (xn.trans xm), pm, hs ++ [x, x + 1, if x - 1 > cold then x - 1 else cold], _, _, by rw [em, List.map_append]; rfl, ?_, by simp only [List.length_append, List.length_cons, List.length_nil]; omega, rfl⟩
              intro y hy
              rcases List.mem_append.mp hy with hy | hy
              · exact hhs y hy
              · simp only [List.mem_cons, List.not_mem_nil, or_false] at hy
                rcases hy with rfl | rfl | rfl
                · exact cx
                · omega
                · split <;> omega
          · rintro τ h' ⟨x4, q, hs, a11, a12, eq, hhs, lhs, rfl⟩
            exact hnx3 _ _ ⟨x4, q, hs, _, _, _, _, eq, hhs, by simp only [List.length_cons, List.length_nil] at lhs; omega, rfl⟩
        | some be =>
          obtain ⟨bb, ee⟩ := be
          have hb1 := (hr bb ee rfl).1
          cases ee with
          | none =>
            (conv => whnf); (repeat (first | (refine w_need rfl ?_; (conv => whnf)) | (refine w_ix (by assumption) rfl ?_; (conv => whnf)) | (refine w_ix hupd_same rfl ?_; (conv => whnf)) | (refine w_setL (by assumption) rfl ?_; (conv => whnf)) | (refine w_setL hupd_same rfl ?_; (conv => whnf)) | (refine w_eqi ?_; (conv => whnf)) | (refine w_eqs ?_; (conv => whnf)) | (refine w_t (by first | rfl | decide | assumption) ?_; (conv => whnf)) | (refine w_f (by first | rfl | decide | assumption) ?_; (conv => whnf)) | (refine And.intro (by first | rfl | decide | assumption | omega | exact Nat.le_of_ble_eq_true rfl | exact mulR (by omega) (by omega) | exact mulL (by omega) (by omega) | exact divOk (by omega) (by omega) | exact Exists.intro _ (by assumption)) ?_; (conv => whnf))))
            refine w_loop (I := fun j2 τ h' => Ext h10 h' ∧ ∃ q hs a11 a12, h' q = some (.lst (hs.map D.int)) ∧ (∀ x ∈ hs, cold ≤ x) ∧ hs.length ≤ 3 + 6 * j + 3 * j2 ∧ τ = [some (.fls (ns.map D.int)), some (.loc b), some (.int (0 + i1)), some (.int share), some (kitD n l1 l2 cold rise ovens ts ds2), some dd5, some (.int (0 + i2)), some (bakD o i st m d), some (.loc q), some (.str word), a10, a11, a12]) ⟨xc, q, hs, _, _, xq _ _ eq, hhs, by omega, rfl⟩ (fun _ _ _ _ _ => trivial) ?_ ?_
            · rintro j2 dd2 τ h' nx4 e2 ⟨x4, q, hs, a11, a12, eq, hhs, lhs, rfl⟩ hnx4
              have hj2 := (List.getElem?_eq_some_iff.mp e2).1
              simp only [List.length_cons, List.length_nil] at hj2
              have hd2 : dd2 = .non ∨ ∃ x, dd2 = .int x ∧ cold ≤ x := by
                have := List.mem_of_getElem? e2
                simp only [List.mem_cons, List.not_mem_nil, or_false] at this; rcases this with rfl | rfl; exact .inr ⟨bb, rfl, hb1.1⟩; exact .inl rfl
              rcases hd2 with rfl | ⟨x, rfl, cx⟩
              · (conv => whnf); (repeat (first | (refine w_need rfl ?_; (conv => whnf)) | (refine w_ix (by assumption) rfl ?_; (conv => whnf)) | (refine w_ix hupd_same rfl ?_; (conv => whnf)) | (refine w_setL (by assumption) rfl ?_; (conv => whnf)) | (refine w_setL hupd_same rfl ?_; (conv => whnf)) | (refine w_eqi ?_; (conv => whnf)) | (refine w_eqs ?_; (conv => whnf)) | (refine w_t (by first | rfl | decide | assumption) ?_; (conv => whnf)) | (refine w_f (by first | rfl | decide | assumption) ?_; (conv => whnf)) | (refine And.intro (by first | rfl | decide | assumption | omega | exact Nat.le_of_ble_eq_true rfl | exact mulR (by omega) (by omega) | exact mulL (by omega) (by omega) | exact divOk (by omega) (by omega) | exact Exists.intro _ (by assumption)) ?_; (conv => whnf))))
                exact hnx4 _ _ ⟨x4, q, hs, _, _, eq, hhs, by omega, rfl⟩
              · (conv => whnf); (repeat (first | (refine w_need rfl ?_; (conv => whnf)) | (refine w_ix (by assumption) rfl ?_; (conv => whnf)) | (refine w_ix hupd_same rfl ?_; (conv => whnf)) | (refine w_setL (by assumption) rfl ?_; (conv => whnf)) | (refine w_setL hupd_same rfl ?_; (conv => whnf)) | (refine w_eqi ?_; (conv => whnf)) | (refine w_eqs ?_; (conv => whnf)) | (refine w_t (by first | rfl | decide | assumption) ?_; (conv => whnf)) | (refine w_f (by first | rfl | decide | assumption) ?_; (conv => whnf)) | (refine And.intro (by first | rfl | decide | assumption | omega | exact Nat.le_of_ble_eq_true rfl | exact mulR (by omega) (by omega) | exact mulL (by omega) (by omega) | exact divOk (by omega) (by omega) | exact Exists.intro _ (by assumption)) ?_; (conv => whnf))))
                intro pn hpn; generalize hh_hn : hupd _ pn _ = hn; obtain ⟨xn, en⟩ := newAt hh_hn hpn
                (conv => whnf)
                refine ⟨hs.map D.int, _, xn _ _ eq, en, by rw [List.length_map]; exact Nat.le_of_lt (small_size (by simp only [List.length_cons, List.length_nil]; omega)), ?_⟩
                intro pm hpm; generalize hh_hm : hupd _ pm _ = hm; obtain ⟨xm, em⟩ := newAt hh_hm hpm
                refine hnx4 _ _ ⟨x4.trans (xn.trans xm), pm, hs ++ [x, x + 1, if x - 1 > cold then x - 1 else cold], _, _, by rw [em, List.map_append]; rfl, ?_, by simp only [List.length_append, List.length_cons, List.length_nil]; omega, rfl⟩
                intro y hy
                rcases List.mem_append.mp hy with hy | hy
                · exact hhs y hy
                · simp only [List.mem_cons, List.not_mem_nil, or_false] at hy
                  rcases hy with rfl | rfl | rfl
                  · exact cx
                  · omega
                  · split <;> omega
            · rintro τ h' ⟨x4, q, hs, a11, a12, eq, hhs, lhs, rfl⟩
              exact hnx3 _ _ ⟨x4, q, hs, _, _, _, _, eq, hhs, by simp only [List.length_cons, List.length_nil] at lhs; omega, rfl⟩
          | some e =>
            have hb2 := (hr bb (some e) rfl).2 e rfl
            (conv => whnf); (repeat (first | (refine w_need rfl ?_; (conv => whnf)) | (refine w_ix (by assumption) rfl ?_; (conv => whnf)) | (refine w_ix hupd_same rfl ?_; (conv => whnf)) | (refine w_setL (by assumption) rfl ?_; (conv => whnf)) | (refine w_setL hupd_same rfl ?_; (conv => whnf)) | (refine w_eqi ?_; (conv => whnf)) | (refine w_eqs ?_; (conv => whnf)) | (refine w_t (by first | rfl | decide | assumption) ?_; (conv => whnf)) | (refine w_f (by first | rfl | decide | assumption) ?_; (conv => whnf)) | (refine And.intro (by first | rfl | decide | assumption | omega | exact Nat.le_of_ble_eq_true rfl | exact mulR (by omega) (by omega) | exact mulL (by omega) (by omega) | exact divOk (by omega) (by omega) | exact Exists.intro _ (by assumption)) ?_; (conv => whnf))))
            refine w_loop (I := fun j2 τ h' => Ext h10 h' ∧ ∃ q hs a11 a12, h' q = some (.lst (hs.map D.int)) ∧ (∀ x ∈ hs, cold ≤ x) ∧ hs.length ≤ 3 + 6 * j + 3 * j2 ∧ τ = [some (.fls (ns.map D.int)), some (.loc b), some (.int (0 + i1)), some (.int share), some (kitD n l1 l2 cold rise ovens ts ds2), some dd5, some (.int (0 + i2)), some (bakD o i st m d), some (.loc q), some (.str word), a10, a11, a12]) ⟨xc, q, hs, _, _, xq _ _ eq, hhs, by omega, rfl⟩ (fun _ _ _ _ _ => trivial) ?_ ?_
            · rintro j2 dd2 τ h' nx4 e2 ⟨x4, q, hs, a11, a12, eq, hhs, lhs, rfl⟩ hnx4
              have hj2 := (List.getElem?_eq_some_iff.mp e2).1
              simp only [List.length_cons, List.length_nil] at hj2
              have hd2 : dd2 = .non ∨ ∃ x, dd2 = .int x ∧ cold ≤ x := by
                have := List.mem_of_getElem? e2
                simp only [List.mem_cons, List.not_mem_nil, or_false] at this; rcases this with rfl | rfl; exact .inr ⟨bb, rfl, hb1.1⟩; exact .inr ⟨e, rfl, hb2.1⟩
              rcases hd2 with rfl | ⟨x, rfl, cx⟩
              · (conv => whnf); (repeat (first | (refine w_need rfl ?_; (conv => whnf)) | (refine w_ix (by assumption) rfl ?_; (conv => whnf)) | (refine w_ix hupd_same rfl ?_; (conv => whnf)) | (refine w_setL (by assumption) rfl ?_; (conv => whnf)) | (refine w_setL hupd_same rfl ?_; (conv => whnf)) | (refine w_eqi ?_; (conv => whnf)) | (refine w_eqs ?_; (conv => whnf)) | (refine w_t (by first | rfl | decide | assumption) ?_; (conv => whnf)) | (refine w_f (by first | rfl | decide | assumption) ?_; (conv => whnf)) | (refine And.intro (by first | rfl | decide | assumption | omega | exact Nat.le_of_ble_eq_true rfl | exact mulR (by omega) (by omega) | exact mulL (by omega) (by omega) | exact divOk (by omega) (by omega) | exact Exists.intro _ (by assumption)) ?_; (conv => whnf))))
                exact hnx4 _ _ ⟨x4, q, hs, _, _, eq, hhs, by omega, rfl⟩
              · (conv => whnf); (repeat (first | (refine w_need rfl ?_; (conv => whnf)) | (refine w_ix (by assumption) rfl ?_; (conv => whnf)) | (refine w_ix hupd_same rfl ?_; (conv => whnf)) | (refine w_setL (by assumption) rfl ?_; (conv => whnf)) | (refine w_setL hupd_same rfl ?_; (conv => whnf)) | (refine w_eqi ?_; (conv => whnf)) | (refine w_eqs ?_; (conv => whnf)) | (refine w_t (by first | rfl | decide | assumption) ?_; (conv => whnf)) | (refine w_f (by first | rfl | decide | assumption) ?_; (conv => whnf)) | (refine And.intro (by first | rfl | decide | assumption | omega | exact Nat.le_of_ble_eq_true rfl | exact mulR (by omega) (by omega) | exact mulL (by omega) (by omega) | exact divOk (by omega) (by omega) | exact Exists.intro _ (by assumption)) ?_; (conv => whnf))))
                intro pn hpn; generalize hh_hn : hupd _ pn _ = hn; obtain ⟨xn, en⟩ := newAt hh_hn hpn
                (conv => whnf)
                refine ⟨hs.map D.int, _, xn _ _ eq, en, by rw [List.length_map]; exact Nat.le_of_lt (small_size (by simp only [List.length_cons, List.length_nil]; omega)), ?_⟩
                intro pm hpm; generalize hh_hm : hupd _ pm _ = hm; obtain ⟨xm, em⟩ := newAt hh_hm hpm
                refine hnx4 _ _ ⟨x4.trans (xn.trans xm), pm, hs ++ [x, x + 1, if x - 1 > cold then x - 1 else cold], _, _, by rw [em, List.map_append]; rfl, ?_, by simp only [List.length_append, List.length_cons, List.length_nil]; omega, rfl⟩
                intro y hy
                rcases List.mem_append.mp hy with hy | hy
                · exact hhs y hy
                · simp only [List.mem_cons, List.not_mem_nil, or_false] at hy
                  rcases hy with rfl | rfl | rfl
                  · exact cx
                  · omega
                  · split <;> omega
            · rintro τ h' ⟨x4, q, hs, a11, a12, eq, hhs, lhs, rfl⟩
              exact hnx3 _ _ ⟨x4, q, hs, _, _, _, _, eq, hhs, by simp only [List.length_cons, List.length_nil] at lhs; omega, rfl⟩
      · rintro τ h' ⟨xj, q, hs, a9, a10, a11, a12, eq, hhs, lhs, rfl⟩
        (conv => whnf)
        refine w_for ?_
        (conv => whnf)
        rw [eq]
        (conv => whnf)
        refine w_loop (I := fun _ τ h'' => Ext h' h'' ∧ ∃ a10 a11, τ = [some (.fls (ns.map D.int)), some (.loc b), some (.int (0 + i1)), some (.int share), some (kitD n l1 l2 cold rise ovens ts ds2), some dd5, some (.int (0 + i2)), some (bakD o i st m d), some (.loc q), a9, a10, a11, a12]) ⟨Ext.refl _, _, _, rfl⟩ (fun _ _ h _ z => z.1 _ _ eq) ?_ ?_
        · rintro j3 dd τ h'' nx5 ej ⟨x5, a10, a11, rfl⟩ hnx5
          obtain ⟨heat, rfl, hh⟩ : ∃ heat : Int, dd = .int heat ∧ cold ≤ heat := by
            obtain ⟨z, hz, rfl⟩ := List.mem_map.mp (List.mem_of_getElem? ej)
            exact ⟨z, rfl, hhs z hz⟩
          (conv => whnf); (repeat (first | (refine w_need rfl ?_; (conv => whnf)) | (refine w_ix (by assumption) rfl ?_; (conv => whnf)) | (refine w_ix hupd_same rfl ?_; (conv => whnf)) | (refine w_setL (by assumption) rfl ?_; (conv => whnf)) | (refine w_setL hupd_same rfl ?_; (conv => whnf)) | (refine w_eqi ?_; (conv => whnf)) | (refine w_eqs ?_; (conv => whnf)) | (refine w_t (by first | rfl | decide | assumption) ?_; (conv => whnf)) | (refine w_f (by first | rfl | decide | assumption) ?_; (conv => whnf)) | (refine And.intro (by first | rfl | decide | assumption | omega | exact Nat.le_of_ble_eq_true rfl | exact mulR (by omega) (by omega) | exact mulL (by omega) (by omega) | exact divOk (by omega) (by omega) | exact Exists.intro _ (by assumption)) ?_; (conv => whnf))))
          refine sp_law_outcome k4 (by omega) k6 (by omega) (by omega) (by omega) hh d1 ed ?_
          (conv => whnf); (repeat (first | (refine w_need rfl ?_; (conv => whnf)) | (refine w_ix (by assumption) rfl ?_; (conv => whnf)) | (refine w_ix hupd_same rfl ?_; (conv => whnf)) | (refine w_setL (by assumption) rfl ?_; (conv => whnf)) | (refine w_setL hupd_same rfl ?_; (conv => whnf)) | (refine w_eqi ?_; (conv => whnf)) | (refine w_eqs ?_; (conv => whnf)) | (refine w_t (by first | rfl | decide | assumption) ?_; (conv => whnf)) | (refine w_f (by first | rfl | decide | assumption) ?_; (conv => whnf)) | (refine And.intro (by first | rfl | decide | assumption | omega | exact Nat.le_of_ble_eq_true rfl | exact mulR (by omega) (by omega) | exact mulL (by omega) (by omega) | exact divOk (by omega) (by omega) | exact Exists.intro _ (by assumption)) ?_; (conv => whnf))))
          refine sp_outcome k4 (by omega) k6 (by omega) (by omega) (by omega) hh d1 ed ?_
          (conv => whnf); (repeat (first | (refine w_need rfl ?_; (conv => whnf)) | (refine w_ix (by assumption) rfl ?_; (conv => whnf)) | (refine w_ix hupd_same rfl ?_; (conv => whnf)) | (refine w_setL (by assumption) rfl ?_; (conv => whnf)) | (refine w_setL hupd_same rfl ?_; (conv => whnf)) | (refine w_eqi ?_; (conv => whnf)) | (refine w_eqs ?_; (conv => whnf)) | (refine w_t (by first | rfl | decide | assumption) ?_; (conv => whnf)) | (refine w_f (by first | rfl | decide | assumption) ?_; (conv => whnf)) | (refine And.intro (by first | rfl | decide | assumption | omega | exact Nat.le_of_ble_eq_true rfl | exact mulR (by omega) (by omega) | exact mulL (by omega) (by omega) | exact divOk (by omega) (by omega) | exact Exists.intro _ (by assumption)) ?_; (conv => whnf))))
          refine sp_outcome k4 (by omega) k6 (by omega) (by omega) (by omega) hh d1 ed ?_
          have hs3 := outF_cases lo hi (warmF cold rise st m heat)
          generalize outF lo hi (warmF cold rise st m heat) = w3 at hs3
          (conv => whnf); (repeat (first | (refine w_need rfl ?_; (conv => whnf)) | (refine w_ix (by assumption) rfl ?_; (conv => whnf)) | (refine w_ix hupd_same rfl ?_; (conv => whnf)) | (refine w_setL (by assumption) rfl ?_; (conv => whnf)) | (refine w_setL hupd_same rfl ?_; (conv => whnf)) | (refine w_eqi ?_; (conv => whnf)) | (refine w_eqs ?_; (conv => whnf)) | (refine w_t (by first | rfl | decide | assumption) ?_; (conv => whnf)) | (refine w_f (by first | rfl | decide | assumption) ?_; (conv => whnf)) | (refine And.intro (by first | rfl | decide | assumption | omega | exact Nat.le_of_ble_eq_true rfl | exact mulR (by omega) (by omega) | exact mulL (by omega) (by omega) | exact divOk (by omega) (by omega) | exact Exists.intro _ (by assumption)) ?_; (conv => whnf))))
          intro p13 hp13; generalize hh_h13 : hupd _ p13 _ = h13; obtain ⟨x13, e13⟩ := newAt hh_h13 hp13
          (conv => whnf)
          refine w_repr_out hs3 e13 ?_
          (conv => whnf); (repeat (first | (refine w_need rfl ?_; (conv => whnf)) | (refine w_ix (by assumption) rfl ?_; (conv => whnf)) | (refine w_ix hupd_same rfl ?_; (conv => whnf)) | (refine w_setL (by assumption) rfl ?_; (conv => whnf)) | (refine w_setL hupd_same rfl ?_; (conv => whnf)) | (refine w_eqi ?_; (conv => whnf)) | (refine w_eqs ?_; (conv => whnf)) | (refine w_t (by first | rfl | decide | assumption) ?_; (conv => whnf)) | (refine w_f (by first | rfl | decide | assumption) ?_; (conv => whnf)) | (refine And.intro (by first | rfl | decide | assumption | omega | exact Nat.le_of_ble_eq_true rfl | exact mulR (by omega) (by omega) | exact mulL (by omega) (by omega) | exact divOk (by omega) (by omega) | exact Exists.intro _ (by assumption)) ?_; (conv => whnf))))
          intro p14 hp14; generalize hh_h14 : hupd _ p14 _ = h14; obtain ⟨x14, e14⟩ := newAt hh_h14 hp14
          (conv => whnf)
          refine w_repr_out hs3 e14 ?_
          (conv => whnf); (repeat (first | (refine w_need rfl ?_; (conv => whnf)) | (refine w_ix (by assumption) rfl ?_; (conv => whnf)) | (refine w_ix hupd_same rfl ?_; (conv => whnf)) | (refine w_setL (by assumption) rfl ?_; (conv => whnf)) | (refine w_setL hupd_same rfl ?_; (conv => whnf)) | (refine w_eqi ?_; (conv => whnf)) | (refine w_eqs ?_; (conv => whnf)) | (refine w_t (by first | rfl | decide | assumption) ?_; (conv => whnf)) | (refine w_f (by first | rfl | decide | assumption) ?_; (conv => whnf)) | (refine And.intro (by first | rfl | decide | assumption | omega | exact Nat.le_of_ble_eq_true rfl | exact mulR (by omega) (by omega) | exact mulL (by omega) (by omega) | exact divOk (by omega) (by omega) | exact Exists.intro _ (by assumption)) ?_; (conv => whnf))))
          refine w_f (by simp) ?_
          exact hnx5 _ _ ⟨x5.trans (x13.trans x14), _, _, rfl⟩
        · rintro τ h'' ⟨x5, a10, a11, rfl⟩
          exact hnx2 _ _ ⟨(B.ext xj).ext x5, _, _, _, _, _, _, _, rfl⟩
    · rintro τ h ⟨B, a6, a7, a8, a9, a10, a11, a12, rfl⟩
      exact hnx1 _ _ ⟨B, _, _, _, _, _, _, _, _, _, _, _, rfl⟩
  · rintro τ h ⟨B, a2, a3, a4, a5, a6, a7, a8, a9, a10, a11, a12, rfl⟩
    (conv => whnf)
end DL

set_option Elab.async false
set_option linter.all false
set_option maxRecDepth 100000
set_option maxHeartbeats 4000000
namespace DL
open PySem PySem.Spec PyProof.Rows L2
theorem all_mk {l : PySem.W.OpenLaw} {w : World} {K : PySem.W.Frag} {h : Heap} {mg : Str → Option Value} {fa : Addr} (X : K.In h) (G : h.Ns mainGlobals mg) (hfa : mg "law" = some (.ref fa))
    {f_warmth_by f_warmth f_outcome f_least_heat f_heats_for f_law_bag f_law_draw f_law_pick f_law_ups f_law_is_torn f_law_ties f_law_kitchen f_law_dials f_law_baking f_law_warmth f_law_first f_law_heats f_law_outcome f_law : Addr}
    {od_warmth_by an_warmth_by od_warmth an_warmth od_outcome an_outcome od_least_heat an_least_heat od_heats_for an_heats_for od_law_bag an_law_bag od_law_draw an_law_draw od_law_pick an_law_pick od_law_ups an_law_ups od_law_is_torn an_law_is_torn od_law_ties an_law_ties od_law_kitchen an_law_kitchen od_law_dials an_law_dials od_law_baking an_law_baking od_law_warmth an_law_warmth od_law_first an_law_first od_law_heats an_law_heats od_law_outcome an_law_outcome od_law an_law : Option Addr}
    {sl_warmth_by sl_warmth sl_outcome sl_least_heat sl_heats_for sl_law_bag sl_law_draw sl_law_pick sl_law_ups sl_law_is_torn sl_law_ties sl_law_kitchen sl_law_dials sl_law_baking sl_law_warmth sl_law_first sl_law_heats sl_law_outcome sl_law : Array (Option Value)}
    {oc_warmth_by kV_warmth_by dc_warmth_by pm_warmth_by cd_warmth_by ct_warmth_by oc_warmth kV_warmth dc_warmth pm_warmth cd_warmth ct_warmth oc_outcome kV_outcome dc_outcome pm_outcome cd_outcome ct_outcome oc_least_heat kV_least_heat dc_least_heat pm_least_heat cd_least_heat ct_least_heat oc_heats_for kV_heats_for dc_heats_for pm_heats_for cd_heats_for ct_heats_for oc_law_bag kV_law_bag dc_law_bag pm_law_bag cd_law_bag ct_law_bag oc_law_draw kV_law_draw dc_law_draw pm_law_draw cd_law_draw ct_law_draw oc_law_pick kV_law_pick dc_law_pick pm_law_pick cd_law_pick ct_law_pick oc_law_ups kV_law_ups dc_law_ups pm_law_ups cd_law_ups ct_law_ups oc_law_is_torn kV_law_is_torn dc_law_is_torn pm_law_is_torn cd_law_is_torn ct_law_is_torn oc_law_ties kV_law_ties dc_law_ties pm_law_ties cd_law_ties ct_law_ties oc_law_kitchen kV_law_kitchen dc_law_kitchen pm_law_kitchen cd_law_kitchen ct_law_kitchen oc_law_dials kV_law_dials dc_law_dials pm_law_dials cd_law_dials ct_law_dials oc_law_baking kV_law_baking dc_law_baking pm_law_baking cd_law_baking ct_law_baking oc_law_warmth kV_law_warmth dc_law_warmth pm_law_warmth cd_law_warmth ct_law_warmth oc_law_first kV_law_first dc_law_first pm_law_first cd_law_first ct_law_first oc_law_heats kV_law_heats dc_law_heats pm_law_heats cd_law_heats ct_law_heats oc_law_outcome kV_law_outcome dc_law_outcome pm_law_outcome cd_law_outcome ct_law_outcome oc_law kV_law dc_law pm_law cd_law ct_law : Value}
    (a_warmth_by : PySem.W.nsIn K mainGlobals "warmth_by" = some (some (.ref f_warmth_by)))
    (l_warmth_by : K.lookup f_warmth_by = some ⟨oc_warmth_by, od_warmth_by, .func (PySem.W.fnOf "warmth_by" "warmth_by" (defArgs s_warmth_by) (defBody s_warmth_by) (defScope s_warmth_by) .none kV_warmth_by dc_warmth_by pm_warmth_by an_warmth_by cd_warmth_by ct_warmth_by), sl_warmth_by⟩)
    (c_warmth_by : PySem.W.codeIn K cd_warmth_by "warmth_by" = true)
    (k_warmth_by : PySem.W.keepIn K (.ref f_warmth_by) = true)
    (a_warmth : PySem.W.nsIn K mainGlobals "warmth" = some (some (.ref f_warmth)))
    (l_warmth : K.lookup f_warmth = some ⟨oc_warmth, od_warmth, .func (PySem.W.fnOf "warmth" "warmth" (defArgs s_warmth) (defBody s_warmth) (defScope s_warmth) .none kV_warmth dc_warmth pm_warmth an_warmth cd_warmth ct_warmth), sl_warmth⟩)
    (c_warmth : PySem.W.codeIn K cd_warmth "warmth" = true)
    (k_warmth : PySem.W.keepIn K (.ref f_warmth) = true)
    (a_outcome : PySem.W.nsIn K mainGlobals "outcome" = some (some (.ref f_outcome)))
    (l_outcome : K.lookup f_outcome = some ⟨oc_outcome, od_outcome, .func (PySem.W.fnOf "outcome" "outcome" (defArgs s_outcome) (defBody s_outcome) (defScope s_outcome) .none kV_outcome dc_outcome pm_outcome an_outcome cd_outcome ct_outcome), sl_outcome⟩)
    (c_outcome : PySem.W.codeIn K cd_outcome "outcome" = true)
    (k_outcome : PySem.W.keepIn K (.ref f_outcome) = true)
    (a_least_heat : PySem.W.nsIn K mainGlobals "least_heat" = some (some (.ref f_least_heat)))
    (l_least_heat : K.lookup f_least_heat = some ⟨oc_least_heat, od_least_heat, .func (PySem.W.fnOf "least_heat" "least_heat" (defArgs s_least_heat) (defBody s_least_heat) (defScope s_least_heat) .none kV_least_heat dc_least_heat pm_least_heat an_least_heat cd_least_heat ct_least_heat), sl_least_heat⟩)
    (c_least_heat : PySem.W.codeIn K cd_least_heat "least_heat" = true)
    (k_least_heat : PySem.W.keepIn K (.ref f_least_heat) = true)
    (a_heats_for : PySem.W.nsIn K mainGlobals "heats_for" = some (some (.ref f_heats_for)))
    (l_heats_for : K.lookup f_heats_for = some ⟨oc_heats_for, od_heats_for, .func (PySem.W.fnOf "heats_for" "heats_for" (defArgs s_heats_for) (defBody s_heats_for) (defScope s_heats_for) .none kV_heats_for dc_heats_for pm_heats_for an_heats_for cd_heats_for ct_heats_for), sl_heats_for⟩)
    (c_heats_for : PySem.W.codeIn K cd_heats_for "heats_for" = true)
    (k_heats_for : PySem.W.keepIn K (.ref f_heats_for) = true)
    (a_law_bag : PySem.W.nsIn K mainGlobals "_law_bag" = some (some (.ref f_law_bag)))
    (l_law_bag : K.lookup f_law_bag = some ⟨oc_law_bag, od_law_bag, .func (PySem.W.fnOf "_law_bag" "_law_bag" (defArgs s_law_bag) (defBody s_law_bag) (defScope s_law_bag) .none kV_law_bag dc_law_bag pm_law_bag an_law_bag cd_law_bag ct_law_bag), sl_law_bag⟩)
    (c_law_bag : PySem.W.codeIn K cd_law_bag "_law_bag" = true)
    (k_law_bag : PySem.W.keepIn K (.ref f_law_bag) = true)
    (a_law_draw : PySem.W.nsIn K mainGlobals "_law_draw" = some (some (.ref f_law_draw)))
    (l_law_draw : K.lookup f_law_draw = some ⟨oc_law_draw, od_law_draw, .func (PySem.W.fnOf "_law_draw" "_law_draw" (defArgs s_law_draw) (defBody s_law_draw) (defScope s_law_draw) .none kV_law_draw dc_law_draw pm_law_draw an_law_draw cd_law_draw ct_law_draw), sl_law_draw⟩)
    (c_law_draw : PySem.W.codeIn K cd_law_draw "_law_draw" = true)
    (k_law_draw : PySem.W.keepIn K (.ref f_law_draw) = true)
    (a_law_pick : PySem.W.nsIn K mainGlobals "_law_pick" = some (some (.ref f_law_pick)))
    (l_law_pick : K.lookup f_law_pick = some ⟨oc_law_pick, od_law_pick, .func (PySem.W.fnOf "_law_pick" "_law_pick" (defArgs s_law_pick) (defBody s_law_pick) (defScope s_law_pick) .none kV_law_pick dc_law_pick pm_law_pick an_law_pick cd_law_pick ct_law_pick), sl_law_pick⟩)
    (c_law_pick : PySem.W.codeIn K cd_law_pick "_law_pick" = true)
    (k_law_pick : PySem.W.keepIn K (.ref f_law_pick) = true)
    (a_law_ups : PySem.W.nsIn K mainGlobals "_law_ups" = some (some (.ref f_law_ups)))
    (l_law_ups : K.lookup f_law_ups = some ⟨oc_law_ups, od_law_ups, .func (PySem.W.fnOf "_law_ups" "_law_ups" (defArgs s_law_ups) (defBody s_law_ups) (defScope s_law_ups) .none kV_law_ups dc_law_ups pm_law_ups an_law_ups cd_law_ups ct_law_ups), sl_law_ups⟩)
    (c_law_ups : PySem.W.codeIn K cd_law_ups "_law_ups" = true)
    (k_law_ups : PySem.W.keepIn K (.ref f_law_ups) = true)
    (a_law_is_torn : PySem.W.nsIn K mainGlobals "_law_is_torn" = some (some (.ref f_law_is_torn)))
    (l_law_is_torn : K.lookup f_law_is_torn = some ⟨oc_law_is_torn, od_law_is_torn, .func (PySem.W.fnOf "_law_is_torn" "_law_is_torn" (defArgs s_law_is_torn) (defBody s_law_is_torn) (defScope s_law_is_torn) .none kV_law_is_torn dc_law_is_torn pm_law_is_torn an_law_is_torn cd_law_is_torn ct_law_is_torn), sl_law_is_torn⟩)
    (c_law_is_torn : PySem.W.codeIn K cd_law_is_torn "_law_is_torn" = true)
    (k_law_is_torn : PySem.W.keepIn K (.ref f_law_is_torn) = true)
    (a_law_ties : PySem.W.nsIn K mainGlobals "_law_ties" = some (some (.ref f_law_ties)))
    (l_law_ties : K.lookup f_law_ties = some ⟨oc_law_ties, od_law_ties, .func (PySem.W.fnOf "_law_ties" "_law_ties" (defArgs s_law_ties) (defBody s_law_ties) (defScope s_law_ties) .none kV_law_ties dc_law_ties pm_law_ties an_law_ties cd_law_ties ct_law_ties), sl_law_ties⟩)
    (c_law_ties : PySem.W.codeIn K cd_law_ties "_law_ties" = true)
    (k_law_ties : PySem.W.keepIn K (.ref f_law_ties) = true)
    (a_law_kitchen : PySem.W.nsIn K mainGlobals "_law_kitchen" = some (some (.ref f_law_kitchen)))
    (l_law_kitchen : K.lookup f_law_kitchen = some ⟨oc_law_kitchen, od_law_kitchen, .func (PySem.W.fnOf "_law_kitchen" "_law_kitchen" (defArgs s_law_kitchen) (defBody s_law_kitchen) (defScope s_law_kitchen) .none kV_law_kitchen dc_law_kitchen pm_law_kitchen an_law_kitchen cd_law_kitchen ct_law_kitchen), sl_law_kitchen⟩)
    (c_law_kitchen : PySem.W.codeIn K cd_law_kitchen "_law_kitchen" = true)
    (k_law_kitchen : PySem.W.keepIn K (.ref f_law_kitchen) = true)
    (a_law_dials : PySem.W.nsIn K mainGlobals "_law_dials" = some (some (.ref f_law_dials)))
    (l_law_dials : K.lookup f_law_dials = some ⟨oc_law_dials, od_law_dials, .func (PySem.W.fnOf "_law_dials" "_law_dials" (defArgs s_law_dials) (defBody s_law_dials) (defScope s_law_dials) .none kV_law_dials dc_law_dials pm_law_dials an_law_dials cd_law_dials ct_law_dials), sl_law_dials⟩)
    (c_law_dials : PySem.W.codeIn K cd_law_dials "_law_dials" = true)
    (k_law_dials : PySem.W.keepIn K (.ref f_law_dials) = true)
    (a_law_baking : PySem.W.nsIn K mainGlobals "_law_baking" = some (some (.ref f_law_baking)))
    (l_law_baking : K.lookup f_law_baking = some ⟨oc_law_baking, od_law_baking, .func (PySem.W.fnOf "_law_baking" "_law_baking" (defArgs s_law_baking) (defBody s_law_baking) (defScope s_law_baking) .none kV_law_baking dc_law_baking pm_law_baking an_law_baking cd_law_baking ct_law_baking), sl_law_baking⟩)
    (c_law_baking : PySem.W.codeIn K cd_law_baking "_law_baking" = true)
    (k_law_baking : PySem.W.keepIn K (.ref f_law_baking) = true)
    (a_law_warmth : PySem.W.nsIn K mainGlobals "_law_warmth" = some (some (.ref f_law_warmth)))
    (l_law_warmth : K.lookup f_law_warmth = some ⟨oc_law_warmth, od_law_warmth, .func (PySem.W.fnOf "_law_warmth" "_law_warmth" (defArgs s_law_warmth) (defBody s_law_warmth) (defScope s_law_warmth) .none kV_law_warmth dc_law_warmth pm_law_warmth an_law_warmth cd_law_warmth ct_law_warmth), sl_law_warmth⟩)
    (c_law_warmth : PySem.W.codeIn K cd_law_warmth "_law_warmth" = true)
    (k_law_warmth : PySem.W.keepIn K (.ref f_law_warmth) = true)
    (a_law_first : PySem.W.nsIn K mainGlobals "_law_first" = some (some (.ref f_law_first)))
    (l_law_first : K.lookup f_law_first = some ⟨oc_law_first, od_law_first, .func (PySem.W.fnOf "_law_first" "_law_first" (defArgs s_law_first) (defBody s_law_first) (defScope s_law_first) .none kV_law_first dc_law_first pm_law_first an_law_first cd_law_first ct_law_first), sl_law_first⟩)
    (c_law_first : PySem.W.codeIn K cd_law_first "_law_first" = true)
    (k_law_first : PySem.W.keepIn K (.ref f_law_first) = true)
    (a_law_heats : PySem.W.nsIn K mainGlobals "_law_heats" = some (some (.ref f_law_heats)))
    (l_law_heats : K.lookup f_law_heats = some ⟨oc_law_heats, od_law_heats, .func (PySem.W.fnOf "_law_heats" "_law_heats" (defArgs s_law_heats) (defBody s_law_heats) (defScope s_law_heats) .none kV_law_heats dc_law_heats pm_law_heats an_law_heats cd_law_heats ct_law_heats), sl_law_heats⟩)
    (c_law_heats : PySem.W.codeIn K cd_law_heats "_law_heats" = true)
    (k_law_heats : PySem.W.keepIn K (.ref f_law_heats) = true)
    (a_law_outcome : PySem.W.nsIn K mainGlobals "_law_outcome" = some (some (.ref f_law_outcome)))
    (l_law_outcome : K.lookup f_law_outcome = some ⟨oc_law_outcome, od_law_outcome, .func (PySem.W.fnOf "_law_outcome" "_law_outcome" (defArgs s_law_outcome) (defBody s_law_outcome) (defScope s_law_outcome) .none kV_law_outcome dc_law_outcome pm_law_outcome an_law_outcome cd_law_outcome ct_law_outcome), sl_law_outcome⟩)
    (c_law_outcome : PySem.W.codeIn K cd_law_outcome "_law_outcome" = true)
    (k_law_outcome : PySem.W.keepIn K (.ref f_law_outcome) = true)
    (a_law : PySem.W.nsIn K mainGlobals "law" = some (some (.ref f_law)))
    (l_law : K.lookup f_law = some ⟨oc_law, od_law, .func (PySem.W.fnOf "law" "law" (defArgs s_law) (defBody s_law) (defScope s_law) .none kV_law dc_law pm_law an_law cd_law ct_law), sl_law⟩)
    (c_law : PySem.W.codeIn K cd_law "law" = true)
    (k_law : PySem.W.keepIn K (.ref f_law) = true)
    (n_abs : PySem.W.nsIn K mainGlobals "abs" = some none)
    (n_int : PySem.W.nsIn K mainGlobals "int" = some none)
    (n_len : PySem.W.nsIn K mainGlobals "len" = some none)
    (n_max : PySem.W.nsIn K mainGlobals "max" = some none)
    (n_min : PySem.W.nsIn K mainGlobals "min" = some none)
    (n_range : PySem.W.nsIn K mainGlobals "range" = some none)
    (n_repr : PySem.W.nsIn K mainGlobals "repr" = some none)
    (n_set : PySem.W.nsIn K mainGlobals "set" = some none)
    (n_sorted : PySem.W.nsIn K mainGlobals "sorted" = some none)
    (n_tuple : PySem.W.nsIn K mainGlobals "tuple" = some none) :
    ∃ fd : FuncData, (∀ (s : Shared) (v : Value), BindsTo s fd ⟨[v], []⟩ [("_law_script", v)]) ∧ ∀ base : Heap, K.In base → base.Ns mainGlobals mg → FnG l.prog w K mg base CX0 5 fa fd ["_law_script"] (spD K 1 (runD 13 b_law)) := by
  have e := hfa.symm.trans (PySem.W.mg_of X G a_law)
  cases e
  have T : Facts K mg := ⟨PySem.W.mg_none_of X G n_abs, PySem.W.mg_none_of X G n_int, PySem.W.mg_none_of X G n_len, PySem.W.mg_none_of X G n_max, PySem.W.mg_none_of X G n_min, PySem.W.mg_none_of X G n_range, PySem.W.mg_none_of X G n_repr, PySem.W.mg_none_of X G n_set, PySem.W.mg_none_of X G n_sorted, PySem.W.mg_none_of X G n_tuple⟩
  apply Exists.intro
  apply And.intro
  case right =>
    intro base _ _
    have G_warmth_by := ok_warmth_by (P := l.prog) (w := w) (base := base) T (fun_mk (st := s_warmth_by) l_warmth_by c_warmth_by k_warmth_by) (PySem.W.mg_of X G a_warmth_by) 
    have G_warmth := ok_warmth (P := l.prog) (w := w) (base := base) T (fun_mk (st := s_warmth) l_warmth c_warmth k_warmth) (PySem.W.mg_of X G a_warmth) G_warmth_by
    have G_outcome := ok_outcome (P := l.prog) (w := w) (base := base) T (fun_mk (st := s_outcome) l_outcome c_outcome k_outcome) (PySem.W.mg_of X G a_outcome) G_warmth
    have G_least_heat := ok_least_heat (P := l.prog) (w := w) (base := base) T (fun_mk (st := s_least_heat) l_least_heat c_least_heat k_least_heat) (PySem.W.mg_of X G a_least_heat) G_warmth
    have G_heats_for := ok_heats_for (P := l.prog) (w := w) (base := base) T (fun_mk (st := s_heats_for) l_heats_for c_heats_for k_heats_for) (PySem.W.mg_of X G a_heats_for) G_least_heat
    have G_law_bag := ok_law_bag (P := l.prog) (w := w) (base := base) T (fun_mk (st := s_law_bag) l_law_bag c_law_bag k_law_bag) (PySem.W.mg_of X G a_law_bag) 
    have G_law_draw := ok_law_draw (P := l.prog) (w := w) (base := base) T (fun_mk (st := s_law_draw) l_law_draw c_law_draw k_law_draw) (PySem.W.mg_of X G a_law_draw) 
    have G_law_pick := ok_law_pick (P := l.prog) (w := w) (base := base) T (fun_mk (st := s_law_pick) l_law_pick c_law_pick k_law_pick) (PySem.W.mg_of X G a_law_pick) G_law_draw
    have G_law_ups := ok_law_ups (P := l.prog) (w := w) (base := base) T (fun_mk (st := s_law_ups) l_law_ups c_law_ups k_law_ups) (PySem.W.mg_of X G a_law_ups) 
    have G_law_is_torn := ok_law_is_torn (P := l.prog) (w := w) (base := base) T (fun_mk (st := s_law_is_torn) l_law_is_torn c_law_is_torn k_law_is_torn) (PySem.W.mg_of X G a_law_is_torn) G_law_ups
    have G_law_ties := ok_law_ties (P := l.prog) (w := w) (base := base) T (fun_mk (st := s_law_ties) l_law_ties c_law_ties k_law_ties) (PySem.W.mg_of X G a_law_ties) G_law_draw G_law_is_torn
    have G_law_kitchen := ok_law_kitchen (P := l.prog) (w := w) (base := base) T (fun_mk (st := s_law_kitchen) l_law_kitchen c_law_kitchen k_law_kitchen) (PySem.W.mg_of X G a_law_kitchen) G_law_draw G_law_ties
    have G_law_dials := ok_law_dials (P := l.prog) (w := w) (base := base) T (fun_mk (st := s_law_dials) l_law_dials c_law_dials k_law_dials) (PySem.W.mg_of X G a_law_dials) G_law_pick
    have G_law_baking := ok_law_baking (P := l.prog) (w := w) (base := base) T (fun_mk (st := s_law_baking) l_law_baking c_law_baking k_law_baking) (PySem.W.mg_of X G a_law_baking) G_law_draw G_law_pick
    have G_law_warmth := ok_law_warmth (P := l.prog) (w := w) (base := base) T (fun_mk (st := s_law_warmth) l_law_warmth c_law_warmth k_law_warmth) (PySem.W.mg_of X G a_law_warmth) 
    have G_law_first := ok_law_first (P := l.prog) (w := w) (base := base) T (fun_mk (st := s_law_first) l_law_first c_law_first k_law_first) (PySem.W.mg_of X G a_law_first) G_law_warmth
    have G_law_heats := ok_law_heats (P := l.prog) (w := w) (base := base) T (fun_mk (st := s_law_heats) l_law_heats c_law_heats k_law_heats) (PySem.W.mg_of X G a_law_heats) G_law_first
    have G_law_outcome := ok_law_outcome (P := l.prog) (w := w) (base := base) T (fun_mk (st := s_law_outcome) l_law_outcome c_law_outcome k_law_outcome) (PySem.W.mg_of X G a_law_outcome) G_law_warmth
    exact fg_law (P := l.prog) (w := w) (base := base) T (fun_mk (st := s_law) l_law c_law k_law) G_law_bag G_law_pick G_law_kitchen G_law_dials G_law_baking G_law_draw G_law_heats G_heats_for G_law_outcome G_outcome
  case left => exact fun s v => .of_eq rfl
end DL
open PySem PySem.W PyProof.Rows
set_option maxRecDepth 100000 in
set_option maxHeartbeats 0 in
theorem PySem.Challenge.cw_ovensuntold_k09_outcomes_and_heats_holds : PySem.Challenge.rw_ovensuntold_k09_outcomes_and_heats.Holds := by
  w_on; o_law; k_head; (case hw => w_witness2)
  k_fill
  refine DL.walkG (l := PySem.Challenge.rw_ovensuntold_k09_outcomes_and_heats) (n := 63) (k := 5) (x := "_law_script") (m := 13) (b := DL.b_law) rfl (by decide) rfl ⟨⟨rfl, by decide, by decide⟩, rfl⟩ (fun w h Y => PySem.W.kIn_of Y) ?F DL.law_holds
  case F =>
    intro w mg fa h KX G hmg
    refine' DL.all_mk KX G hmg ?a_warmth_by ?l_warmth_by ?c_warmth_by ?k_warmth_by ?a_warmth ?l_warmth ?c_warmth ?k_warmth ?a_outcome ?l_outcome ?c_outcome ?k_outcome ?a_least_heat ?l_least_heat ?c_least_heat ?k_least_heat ?a_heats_for ?l_heats_for ?c_heats_for ?k_heats_for ?a_law_bag ?l_law_bag ?c_law_bag ?k_law_bag ?a_law_draw ?l_law_draw ?c_law_draw ?k_law_draw ?a_law_pick ?l_law_pick ?c_law_pick ?k_law_pick ?a_law_ups ?l_law_ups ?c_law_ups ?k_law_ups ?a_law_is_torn ?l_law_is_torn ?c_law_is_torn ?k_law_is_torn ?a_law_ties ?l_law_ties ?c_law_ties ?k_law_ties ?a_law_kitchen ?l_law_kitchen ?c_law_kitchen ?k_law_kitchen ?a_law_dials ?l_law_dials ?c_law_dials ?k_law_dials ?a_law_baking ?l_law_baking ?c_law_baking ?k_law_baking ?a_law_warmth ?l_law_warmth ?c_law_warmth ?k_law_warmth ?a_law_first ?l_law_first ?c_law_first ?k_law_first ?a_law_heats ?l_law_heats ?c_law_heats ?k_law_heats ?a_law_outcome ?l_law_outcome ?c_law_outcome ?k_law_outcome ?a_law ?l_law ?c_law ?k_law ?n_abs ?n_int ?n_len ?n_max ?n_min ?n_range ?n_repr ?n_set ?n_sorted ?n_tuple
    (case a_warmth_by => k_is)
    (case l_warmth_by => k_is)
    (case c_warmth_by => k_is)
    (case k_warmth_by => k_is)
    (case a_warmth => k_is)
    (case l_warmth => k_is)
    (case c_warmth => k_is)
    (case k_warmth => k_is)
    (case a_outcome => k_is)
    (case l_outcome => k_is)
    (case c_outcome => k_is)
    (case k_outcome => k_is)
    (case a_least_heat => k_is)
    (case l_least_heat => k_is)
    (case c_least_heat => k_is)
    (case k_least_heat => k_is)
    (case a_heats_for => k_is)
    (case l_heats_for => k_is)
    (case c_heats_for => k_is)
    (case k_heats_for => k_is)
    (case a_law_bag => k_is)
    (case l_law_bag => k_is)
    (case c_law_bag => k_is)
    (case k_law_bag => k_is)
    (case a_law_draw => k_is)
    (case l_law_draw => k_is)
    (case c_law_draw => k_is)
    (case k_law_draw => k_is)
    (case a_law_pick => k_is)
    (case l_law_pick => k_is)
    (case c_law_pick => k_is)
    (case k_law_pick => k_is)
    (case a_law_ups => k_is)
    (case l_law_ups => k_is)
    (case c_law_ups => k_is)
    (case k_law_ups => k_is)
    (case a_law_is_torn => k_is)
    (case l_law_is_torn => k_is)
    (case c_law_is_torn => k_is)
    (case k_law_is_torn => k_is)
    (case a_law_ties => k_is)
    (case l_law_ties => k_is)
    (case c_law_ties => k_is)
    (case k_law_ties => k_is)
    (case a_law_kitchen => k_is)
    (case l_law_kitchen => k_is)
    (case c_law_kitchen => k_is)
    (case k_law_kitchen => k_is)
    (case a_law_dials => k_is)
    (case l_law_dials => k_is)
    (case c_law_dials => k_is)
    (case k_law_dials => k_is)
    (case a_law_baking => k_is)
    (case l_law_baking => k_is)
    (case c_law_baking => k_is)
    (case k_law_baking => k_is)
    (case a_law_warmth => k_is)
    (case l_law_warmth => k_is)
    (case c_law_warmth => k_is)
    (case k_law_warmth => k_is)
    (case a_law_first => k_is)
    (case l_law_first => k_is)
    (case c_law_first => k_is)
    (case k_law_first => k_is)
    (case a_law_heats => k_is)
    (case l_law_heats => k_is)
    (case c_law_heats => k_is)
    (case k_law_heats => k_is)
    (case a_law_outcome => k_is)
    (case l_law_outcome => k_is)
    (case c_law_outcome => k_is)
    (case k_law_outcome => k_is)
    (case a_law => k_is)
    (case l_law => k_is)
    (case c_law => k_is)
    (case k_law => k_is)
    (case n_abs => k_is)
    (case n_int => k_is)
    (case n_len => k_is)
    (case n_max => k_is)
    (case n_min => k_is)
    (case n_range => k_is)
    (case n_repr => k_is)
    (case n_set => k_is)
    (case n_sorted => k_is)
    (case n_tuple => k_is)

